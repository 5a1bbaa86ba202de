import PyProof.Rows.All
import Wide.All
import OpenK.AllK
import Wide.FinOn
import Lean
import PySem.Challenge.RW_pb0154_01
set_option maxHeartbeats 4000000
set_option linter.all false
open PySem PySem.W PyProof.Rows
set_option Elab.async false
namespace Mine
set_option maxRecDepth 100000 in
set_option maxHeartbeats 8000000 in
open_top hd for PySem.Challenge.rw_pb0154_01
end Mine

open PySem PySem.W PySem.Calls PyProof.Rows
set_option Elab.async false
set_option maxRecDepth 100000
namespace Mine
theorem freshBase0 : True := by w_top off; trivial
abbrev PR : Program := PySem.Challenge.rw_pb0154_01.row.prog

/-- room of the call stack -/
structure Ok (n : Nat) (A : Around) : Prop where
  hh : A.handled = none
  dp : A.depth + n < recursionLimit
  un : A.units + 10 * n < cLine
theorem Ok.in1 {n : Nat} {A : Around} (k : Ok (n + 1) A) : Ok n A.in1 := ⟨k.hh, by have := k.dp; simp only [Around.in1_depth]; omega, by have := k.un; simp only [Around.in1_units]; omega⟩
theorem Ok.deeper {n : Nat} {A : Around} {env : Env} (k : Ok (n + 1) A) : Ok n (A.deeper env) := ⟨k.hh, by have := k.dp; rw [depth_deeper]; omega, by have := k.un; rw [units_deeper]; omega⟩
theorem Ok.mono {n m : Nat} {A : Around} (k : Ok n A) (h : m ≤ n) : Ok m A := ⟨k.hh, by have := k.dp; omega, by have := k.un; omega⟩
theorem Ok.room {n : Nat} {A : Around} (k : Ok n A) : A.depth < recursionLimit := by have := k.dp; omega
theorem Ok.units {n : Nat} {A : Around} (k : Ok n A) : A.units < cLine := by have := k.un; omega

/-- the heap as it stood when the law was called: the text's own objects -/
structure Gc (w : World) (h : Heap) : Prop where
  X : (hd.heap_39 w.params).In h
  T : ∃ mean mg mb, Top hd.view_39 (looseW hd.view_39 []) mean mg mb h
theorem Gc.keeps {w : World} {h h' : Heap} (G : Gc w h) (k : h.StaysIn h') : Gc w h' := ⟨G.X.keeps k, let ⟨a, b, c, T⟩ := G.T; ⟨a, b, c, T.keeps k⟩⟩

section
variable {prog : Program} {w : World} {A : Around} {s : Shared} {h₀ : Heap}
  {R : Result → Shared → Prop} {name qual : Str} {params : Arguments} {body : List Stmt} {scope : Scope} {dV kV doc pm cdv ct oc : Value} {an od : Option Addr} {osl : Array (Option Value)} {f : Addr} {args : Args} {binds : List (Str × Value)}
  {fp : List (Addr × Obj)}

theorem enter (hroom : A.depth < recursionLimit) (G : Gc w h₀) (st : h₀.StaysIn s.heap) (N : ∀ p ∈ fp, s.heap.get? p.1 = some p.2 ∧ h₀.get? p.1 = none)
    (ho : (hd.heap_39 w.params).lookup f = some ⟨oc, od, .func (fnOf name qual params body scope dV kV doc pm an cdv ct), osl⟩) (hcd : codeIn (hd.heap_39 w.params) cdv qual = true)
    (hbind : BindsTo s (fnOf name qual params body scope dV kV doc pm an cdv ct) args binds) (hloc : ∀ y ∈ binds, scope.names.lookup y.1 = some .local)
    (h : ∀ g L' h₁, Gc w g → h₀.StaysIn g → (∀ b o, s.heap.get? b = some o → b ∉ fp.map (·.1) → g.get? b = some o) → Fr g L' h₁ (fun y => binds.reverse.lookup y) → News g L' h₁ fp →
      wpAny (model prog w) (A.deeper (envOf qual scope L' f cdv)) (execs body (envOf qual scope L' f cdv))
        (fun fl s' => R (.ok (.ret (match fl with | .ret v => v | _ => .none))) s') (fun _ _ => False)
        { s with heap := h₁, toks := s.toks + binds.length })
    (hcell : ∀ x ∈ scope.names, x.2 ≠ .cell) (hco : scope.isCoroutine = false := by rfl) (hgen : scope.isGenerator = false := by rfl) (hk : scope.kind = .function := by rfl) :
    codeAny (model prog w) A (.call (.ref f) args) R s := by
  obtain ⟨mean, mg, mb, T⟩ := G.T
  refine codeAny_call_def (fd := fnOf name qual params body scope dV kV doc pm an cdv ct) (body := body) (binds := binds) hroom (st _ _ (G.X _ _ ho)) rfl (T.nolimit.keeps st) (codeRec_of (G.X.keeps st) hcd) rfl hbind hcell hloc (fun h₁ hns hk₁ => ?_) hco hgen hk
  have nm : ∀ b o, h₀.get? b = some o → b ∉ fp.map (·.1) := fun b o e q => by
    obtain ⟨p, hp, rfl⟩ := List.mem_map.mp q
    rw [(N p hp).2] at e; cases e
  have st' : h₀.StaysIn (hideAll s.heap (fp.map (·.1))) := fun b o e => hideAll_get _ (st b o e) (nm b o e)
  refine wpAny_mono (h _ s.heap.objs.size h₁ (G.keeps st') st' (fun b o e hb => hideAll_get _ e hb) ⟨hns, fun b o e => hk₁ b o (of_hideAll _ e), Nat.le_of_eq (hideAll_size _ _)⟩
    (fun p hp => ⟨hk₁ _ _ (N p hp).1, Nat.ne_of_lt (Heap.lt_size (N p hp).1), hideAll_none _ (List.mem_map_of_mem hp)⟩)) (fun _ _ x => x) fun _ _ x => x.elim
end

/-- one list lies within another: small proofs -/
theorem subCons {α : Type} {a : α} {t l : List α} (h : a ∈ l) (k : ∀ q ∈ t, q ∈ l) : ∀ q ∈ a :: t, q ∈ l := fun q hq => (List.mem_cons.mp hq).elim (fun e => e ▸ h) (k q)
theorem subApp {α : Type} {s t l : List α} (h : ∀ q ∈ s, q ∈ l) (k : ∀ q ∈ t, q ∈ l) : ∀ q ∈ s ++ t, q ∈ l := fun q hq => (List.mem_append.mp hq).elim (h q) (k q)
theorem subNil {α : Type} {l : List α} : ∀ q ∈ ([] : List α), q ∈ l := fun q hq => nomatch hq
end Mine

open PySem PySem.W PySem.Calls PyProof.Rows
set_option Elab.async false
set_option maxRecDepth 100000
namespace Mine
theorem freshTrieD : True := by w_top off; trivial

/-- the children of the node whose path is q, as its dict holds them -/
def Kids (ps : List (List Int)) (q : List Int) (kvs : List (Int × Value)) : Prop :=
  ∀ k : Int, (valueAt kvs k = none ∧ q ++ [k] ∉ ps) ∨ ∃ (j : Nat) (tk : Tok), valueAt kvs k = some (.int (j : Int) tk) ∧ ps[j]? = some (q ++ [k])

/-- where a trie's parts lie -/
structure TD where
  dt : Addr
  ls : Addr
  le : Addr
  a : Tok
  b : Tok
  n2 : Nat
  n3 : Nat
  nd : List (Addr × Obj)
  vs : List Value

def TD.dictEs (w : World) (D : TD) : List DictEntry :=
  [{ hash := PyData.keyHash w.params (Str.ofString "steps"), key := Value.str (Str.ofString "steps") D.a, val := Value.ref D.ls },
   { hash := PyData.keyHash w.params (Str.ofString "ends"), key := Value.str (Str.ofString "ends") D.b, val := Value.ref D.le }]
def TD.refs (D : TD) : List Value := D.nd.map fun p => .ref p.1
def TD.objs (w : World) (t : Addr) (D : TD) : List (Addr × Obj) :=
  (t, instObj 59 D.dt) :: (D.dt, dictOf [{ hash := PyData.keyHash w.params (Str.ofString "steps"), key := Value.str (Str.ofString "steps") D.a, val := Value.ref D.ls },
   { hash := PyData.keyHash w.params (Str.ofString "ends"), key := Value.str (Str.ofString "ends") D.b, val := Value.ref D.le }] 2) :: (D.ls, listOf D.refs.toArray D.n2) :: (D.le, listOf D.vs.toArray D.n3) :: D.nd

/-- the trie's data say: its nodes are the paths ps, path q ends in E q -/
structure TrieOk (w : World) (t : Addr) (D : TD) (ps : List (List Int)) (E : List Int → Option Int) : Prop where
  len : D.nd.length = ps.length
  lenv : D.vs.length = ps.length
  small : ps.length ≤ 1000
  kids : ∀ (i : Nat) q p, D.nd[i]? = some p → ps[i]? = some q → ∃ kvs, p.2.IsDictOf (PySem.intKind PR w) kvs ∧ Kids ps q kvs ∧ kvs.length ≤ ps.length
  ends : ∀ (i : Nat) q, ps[i]? = some q → ∃ tk, D.vs[i]? = some (.int ((E q).getD (-1)) tk)
  nodup : ps.Nodup
  root : ps[0]? = some []
  closed : ∀ q k, q ++ [k] ∈ ps → q ∈ ps
  sub : ∀ q e, E q = some e → q ∈ ps
  addrs : ((D.objs w t).map (·.1)).Nodup
  low : ∀ p ∈ D.nd, (p.1 == sysModules) = false

def TrieAt (w : World) (h : Heap) (t : Addr) (D : TD) (ps : List (List Int)) (E : List Int → Option Int) : Prop :=
  (∀ p ∈ D.objs w t, h.get? p.1 = some p.2) ∧ TrieOk w t D ps E

theorem TrieAt.keeps {w : World} {h h' : Heap} {t : Addr} {D : TD} {ps : List (List Int)} {E : List Int → Option Int} (T : TrieAt w h t D ps E) (k : h.StaysIn h') : TrieAt w h' t D ps E :=
  ⟨fun p hp => k _ _ (T.1 p hp), T.2⟩

theorem keep_of {s g h' : Heap} {L : Addr} {m : Str → Option Value} {fp : List (Addr × Obj)} (hb : ∀ b o, s.get? b = some o → b ∉ fp.map (·.1) → g.get? b = some o) (F : Fr g L h' m)
    (N : ∀ p ∈ fp, h'.get? p.1 = some p.2) (N0 : ∀ p ∈ fp, s.get? p.1 = some p.2) : s.StaysIn h' := by
  intro b o e
  by_cases hm : b ∈ fp.map (·.1)
  · obtain ⟨p, hp, rfl⟩ := List.mem_map.mp hm
    rw [N0 p hp] at e
    rw [N p hp]; exact e
  · exact F.keep b o (hb b o e hm)

theorem my_item {prog : Program} {w : World} {A : Around} {E : Value → Shared → Prop} {s : Shared} {value slice : PySem.Expr} {l : Addr} {vs : List Value} {k : Int} {u : Tok} {v : Value} {Q : Value → Shared → Prop}
    (hl : s.heap.IsList l vs.toArray) (h0 : 0 ≤ k) (hhi : k < 2 ^ 63) (hx : vs[k.toNat]? = some v) (h : Q v s)
    (hs : subscripted slice false (.ref l) (.int k u) = operate [.ref l, .int k u] (getItem (.ref l) (.int k u)) := by with_unfolding_all rfl) :
    wpAny (model prog w) A (subscriptTail value slice (.ref l) (.int k u)) Q E s :=
  tail_any hl.typeIs slot_list_getitem.lookup (wpAny_getItem_list hl h0 hhi (by simpa using hx) h) hs

/-- what Trie.step hands back -/
def StepVal (ps : List (List Int)) (q : List Int) (k : Int) (v : Value) : Prop :=
  (∃ (j : Nat) (tk : Tok), v = .int (j : Int) tk ∧ ps[j]? = some (q ++ [k])) ∨ (q ++ [k] ∉ ps ∧ ∃ tk, v = .int (-1) tk)
theorem drop_off {l : List (Addr × Obj)} (nd : (l.map (·.1)).Nodup) (n : Nat) {x : Addr × Obj} (hx : x ∈ l.drop n) : x.1 ∉ (l.take n).map (·.1) := by
  intro hm
  rw [← List.take_append_drop n l, List.map_append] at nd
  obtain ⟨_, _, hd⟩ := List.nodup_append.mp nd
  exact hd x.1 hm x.1 (List.mem_map_of_mem hx) rfl
theorem none_of_size {h : Heap} {a : Addr} (e : h.objs.size ≤ a) : h.get? a = none := by
  cases q : h.get? a with
  | none => rfl
  | some o => exact absurd (Heap.lt_size q) (by show ¬ a < h.objs.size; exact Nat.not_lt.mpr e)
theorem none_of_stays {h h' : Heap} {a : Addr} (st : h.StaysIn h') (e : h'.get? a = none) : h.get? a = none := by
  cases q : h.get? a with
  | none => rfl
  | some o => rw [st _ _ q] at e; cases e
theorem isList_of {g : Heap} {l : Addr} {vs : Array Value} {n : Nat} (h : g.get? l = some (listOf vs n)) : g.IsList l vs := ⟨_, h, rfl, n, rfl⟩
end Mine

open PySem PySem.W PySem.Calls PyProof.Rows
set_option Elab.async false
set_option maxRecDepth 100000
namespace Mine
theorem freshTrieP : True := by w_top off; trivial

theorem valueAt_append (kvs : List (Int × Value)) (k x : Int) (v : Value) (h : valueAt kvs k = none) :
    valueAt (kvs ++ [(k, v)]) x = if x = k then some v else valueAt kvs x := by
  unfold valueAt at h ⊢
  rw [List.find?_append]
  by_cases e : x = k
  · subst e
    rw [if_pos rfl]
    have : (kvs.find? fun kv => decide (kv.1 = x)) = none := by simpa using h
    simp [this]
  · rw [if_neg e]
    have : ([(k, v)] : List (Int × Value)).find? (fun kv => decide (kv.1 = x)) = none := by simp [Ne.symm e]
    rw [this, Option.or_none]

theorem TrieOk.grow {w : World} {t : Addr} {D : TD} {ps : List (List Int)} {Ev : List Int → Option Int} (T : TrieOk w t D ps Ev) {n : Nat} {q : List Int} {d : Addr} {o o' : Obj} {k : Int} {kvs : List (Int × Value)} {tk tv : Tok} {dn : Addr} {on : Obj}
    (hq : ps[n]? = some q) (hn : D.nd[n]? = some (d, o)) (hno : q ++ [k] ∉ ps) (hd2 : Kids ps q kvs) (hl : kvs.length ≤ ps.length) (hv : valueAt kvs k = none) (hd' : o'.IsDictOf (PySem.intKind PR w) (stored kvs k (.int (ps.length : Nat) tk)))
    (hon : on.IsDictOf (PySem.intKind PR w) []) (hdn : dn ∉ (D.objs w t).map (·.1)) (hlow : (dn == sysModules) = false) (hsz : ps.length + 1 ≤ 1000) (n2 n3 : Nat) :
    TrieOk w t { D with nd := D.nd.set n (d, o') ++ [(dn, on)], vs := D.vs ++ [.int (-1) tv], n2 := n2, n3 := n3 } (ps ++ [q ++ [k]]) Ev := by
  have hnl : n < D.nd.length := (List.getElem?_eq_some_iff.mp hn).1
  have hmap : (D.nd.set n (d, o')).map (·.1) = D.nd.map (·.1) := by
    rw [List.map_set]
    apply List.ext_getElem?
    intro i
    by_cases hi : n = i
    · subst hi
      simp only [List.getElem?_map, hn, Option.map_some]
      simp [hnl]
    · rw [List.getElem?_set_ne hi]
  rw [stored_absent hv] at hd'
  refine ⟨?_, ?_, ?_, ?_, ?_, ?_, ?_, ?_, ?_, ?_, ?_⟩
  · simp [T.len]
  · simp [T.lenv]
  · simpa using hsz
  · intro i q' p hp hq'
    dsimp only at hp
    by_cases hi : i < ps.length
    · have hi' : i < D.nd.length := by rw [T.len]; exact hi
      rw [List.getElem?_append_left (by simpa using hi')] at hp
      rw [List.getElem?_append_left hi] at hq'
      by_cases e : n = i
      · subst e
        rw [hq] at hq'; cases hq'
        simp only [List.getElem?_set, hi', if_true] at hp
        cases hp
        refine ⟨_, hd', fun x => ?_, by simp; omega⟩
        rw [valueAt_append _ _ _ _ hv]
        by_cases ex : x = k
        · subst ex
          rw [if_pos rfl]
          exact .inr ⟨ps.length, tk, rfl, by simp⟩
        · rw [if_neg ex]
          rcases hd2 x with ⟨e1, e2⟩ | ⟨j, tj, e1, e2⟩
          · refine .inl ⟨e1, ?_⟩
            simp only [List.mem_append, List.mem_singleton, not_or]
            refine ⟨e2, fun e3 => ex ?_⟩
            simpa using e3
          · exact .inr ⟨j, tj, e1, by rw [List.getElem?_append_left (List.getElem?_eq_some_iff.mp e2).1]; exact e2⟩
      · rw [List.getElem?_set_ne e] at hp
        obtain ⟨kv, h1, h2, h3⟩ := T.kids i q' p hp hq'
        refine ⟨kv, h1, fun x => ?_, by simp; omega⟩
        rcases h2 x with ⟨e1, e2⟩ | ⟨j, tj, e1, e2⟩
        · refine .inl ⟨e1, ?_⟩
          simp only [List.mem_append, List.mem_singleton, not_or]
          refine ⟨e2, fun e3 => ?_⟩
          have e4 : q' = q := (List.append_inj' e3 rfl).1
          subst e4
          exact e ((List.getElem?_inj (List.getElem?_eq_some_iff.mp hq).1 T.nodup).mp (hq.trans hq'.symm))
        · exact .inr ⟨j, tj, e1, by rw [List.getElem?_append_left (List.getElem?_eq_some_iff.mp e2).1]; exact e2⟩
    · have hi2 : i = ps.length := by
        have := (List.getElem?_eq_some_iff.mp hq').1
        simp at this; omega
      subst hi2
      rw [List.getElem?_append_right (by simp [T.len])] at hp
      simp only [List.length_set, T.len, Nat.sub_self] at hp
      cases hp
      simp at hq'
      subst hq'
      refine ⟨[], hon, fun x => .inl ⟨rfl, ?_⟩, by simp⟩
      simp only [List.mem_append, List.mem_singleton, not_or]
      refine ⟨fun e => hno (T.closed _ _ e), fun e => ?_⟩
      have := congrArg List.length e
      simp at this
  · intro i q' hq'
    dsimp only
    by_cases hi : i < ps.length
    · rw [List.getElem?_append_left hi] at hq'
      rw [List.getElem?_append_left (by rw [T.lenv]; exact hi)]
      exact T.ends i q' hq'
    · have hi2 : i = ps.length := by
        have := (List.getElem?_eq_some_iff.mp hq').1
        simp at this; omega
      subst hi2
      simp at hq'
      subst hq'
      rw [List.getElem?_append_right (by rw [T.lenv]; exact Nat.le_refl _)]
      simp only [T.lenv, Nat.sub_self]
      refine ⟨tv, ?_⟩
      cases he : Ev (q ++ [k]) with
      | none => rfl
      | some x => exact absurd (T.sub _ _ he) hno
  · rw [List.nodup_append]
    refine ⟨T.nodup, by simp, fun a ha b hb => ?_⟩
    rw [List.mem_singleton.mp hb]
    exact fun e => hno (e ▸ ha)
  · rw [List.getElem?_append_left (by have := (List.getElem?_eq_some_iff.mp T.root).1; exact this)]; exact T.root
  · intro q' x hx
    rcases List.mem_append.mp hx with hx | hx
    · exact List.mem_append_left _ (T.closed _ _ hx)
    · have e := List.mem_singleton.mp hx
      have e4 : q' = q := (List.append_inj' e rfl).1
      rw [e4]
      exact List.mem_append_left _ (List.mem_of_getElem? hq)
  · intro q' x hx
    exact List.mem_append_left _ (T.sub _ _ hx)
  · have h1 := T.addrs
    simp only [TD.objs, TD.refs, List.map_cons, List.map_append, List.map_nil, hmap] at h1 hdn ⊢
    rw [show ∀ (a b c e : Addr) (l : List Addr) (x : Addr), a :: b :: c :: e :: (l ++ [x]) = (a :: b :: c :: e :: l) ++ [x] from fun _ _ _ _ _ _ => rfl]
    rw [List.nodup_append]
    refine ⟨h1, by simp, fun a ha b hb => ?_⟩
    rw [List.mem_singleton.mp hb]
    exact fun e => hdn (e ▸ ha)
  · intro p hp
    rcases List.mem_append.mp hp with hp | hp
    · rcases List.mem_or_eq_of_mem_set hp with hp | hp
      · exact T.low p hp
      · rw [hp]; exact T.low (d, o) (List.mem_of_getElem? hn)
    · rw [List.mem_singleton.mp hp]; exact hlow

theorem TrieOk.setEnd {w : World} {t : Addr} {D : TD} {ps : List (List Int)} {Ev : List Int → Option Int} (T : TrieOk w t D ps Ev) {n : Nat} {q : List Int} {l : Int} {tl : Tok}
    (hq : ps[n]? = some q) : TrieOk w t { D with vs := D.vs.set n (.int l tl) } ps (fun x => if x = q then some l else Ev x) := by
  refine ⟨T.len, by simp [T.lenv], T.small, T.kids, ?_, T.nodup, T.root, T.closed, ?_, T.addrs, T.low⟩
  · intro i q' hq'
    dsimp only
    by_cases e : n = i
    · subst e
      rw [hq] at hq'; cases hq'
      have : n < D.vs.length := by rw [T.lenv]; exact (List.getElem?_eq_some_iff.mp hq).1
      exact ⟨tl, by simp [List.getElem?_set, this]⟩
    · rw [List.getElem?_set_ne e]
      have : q' ≠ q := fun e' => by
        subst e'
        exact e ((List.getElem?_inj (List.getElem?_eq_some_iff.mp hq).1 T.nodup).mp (hq.trans hq'.symm))
      rw [if_neg this]
      exact T.ends i q' hq'
  · intro x e he
    by_cases e' : x = q
    · subst e'; exact List.mem_of_getElem? hq
    · rw [if_neg e'] at he; exact T.sub _ _ he

theorem ints_get {vs : List Value} {ns : List Int} (hi : IntsAre vs ns) {i : Nat} {v : Value} (hv : vs[i]? = some v) : ∃ k t, v = .int k t ∧ ns[i]? = some k := by
  induction hi generalizing i with
  | nil => simp at hv
  | cons x t h ih =>
    cases i with
    | zero => cases hv; exact ⟨_, _, rfl, rfl⟩
    | succ i => exact ih (by simpa using hv)

theorem nod_snoc {l : List (Addr × Obj)} {I : Addr} {oI : Obj} (nd : (l.map (·.1)).Nodup) (hI : ∀ p ∈ l, p.1 ≠ I) : ((l ++ [(I, oI)]).map (·.1)).Nodup := by
  rw [List.map_append, List.nodup_append]
  refine ⟨nd, by simp, fun a ha b hb => ?_⟩
  obtain ⟨p, hp, rfl⟩ := List.mem_map.mp ha
  rw [show b = I from by simpa using hb]
  exact hI p hp

theorem mapset {nd : List (Addr × Obj)} {n : Nat} {d : Addr} {o o' : Obj} (hn : nd[n]? = some (d, o)) : (nd.set n (d, o')).map (·.1) = nd.map (·.1) := by
  have hnl := (List.getElem?_eq_some_iff.mp hn).1
  rw [List.map_set]
  apply List.ext_getElem?
  intro i
  by_cases hi : n = i
  · subst hi
    simp only [List.getElem?_map, hn, Option.map_some]
    simp [hnl]
  · rw [List.getElem?_set_ne hi]
theorem refset {nd : List (Addr × Obj)} {n : Nat} {d : Addr} {o o' : Obj} (hn : nd[n]? = some (d, o)) : (nd.set n (d, o')).map (fun p => Value.ref p.1) = nd.map (fun p => Value.ref p.1) := by
  have := congrArg (List.map Value.ref) (mapset (o' := o') hn)
  rw [List.map_map, List.map_map] at this
  exact this
theorem allLt_mem {d : Addr} : ∀ {l : List (Addr × Obj)}, AllLt d l → ∀ p ∈ l, p.1 < d
  | [], _, _, hp => (nomatch hp)
  | q :: r, h, p, hp => by
    rcases List.mem_cons.mp hp with rfl | hp
    · exact h.1
    · exact allLt_mem h.2 p hp
theorem dict_item {w : World} {prog : Program} {A : Around} {E : Value → Shared → Prop} {s : Shared} {d : Addr} {kvs : List (Int × Value)} {k : Int} {t : Tok} {v : Value} {value slice : PySem.Expr} {Q : Value → Shared → Prop} (hD : s.heap.DictOf (PySem.intKind prog w) d kvs) (hl : valueAt kvs k = some v) (h : Q v { s with toks := s.toks + 1 })
    (hs : subscripted slice false (.ref d) (.int k t) = operate [.ref d, .int k t] (getItem (.ref d) (.int k t)) := by with_unfolding_all rfl) (hg : ∀ r, letTemporaryGo value (.ref d) r = pure () := by intro _; with_unfolding_all rfl) :
    wpAny (model prog w) A (subscriptTail value slice (.ref d) (.int k t)) Q E s :=
  subscriptTail_builtin hD.typeIs slot_dict_getitem.lookup (wpAny_getItem_of (intKind_is _ _ _ _) hD.mapOf hl h) hs hg

theorem m_shape (N G : Str) (A B C U : Option Value) (m : Str → Option Value) :
    (fun y => if y = N then A else if y = G then B else if y = N then C else if y = G then U else m y) = fun y => if y = N then A else if y = G then B else m y := by
  funext y
  by_cases h1 : y = N
  · rw [if_pos h1, if_pos h1]
  · rw [if_neg h1, if_neg h1, if_neg h1]
    by_cases h2 : y = G
    · rw [if_pos h2, if_pos h2]
    · rw [if_neg h2, if_neg h2, if_neg h2]
theorem take_snoc {gs : List Int} {i : Nat} {k : Int} (h : gs[i]? = some k) : gs.take (i + 1) = gs.take i ++ [k] := by rw [List.take_add_one, h]; rfl
theorem paths_next {gs : List Int} {ps ps' : List (List Int)} {i : Nat} {k : Int} (h : gs[i]? = some k) (hps : ∀ x, x ∈ ps' ↔ x ∈ ps ∨ ∃ j ≤ i, x = gs.take j) :
    ∀ x, x ∈ ps' ++ [gs.take i ++ [k]] ↔ x ∈ ps ∨ ∃ j ≤ i + 1, x = gs.take j := by
  intro x
  rw [List.mem_append, List.mem_singleton, hps, ← take_snoc h]
  constructor
  · rintro ((h1 | ⟨j, hj, e⟩) | e)
    · exact .inl h1
    · exact .inr ⟨j, by omega, e⟩
    · exact .inr ⟨i + 1, Nat.le_refl _, e⟩
  · rintro (h1 | ⟨j, hj, e⟩)
    · exact .inl (.inl h1)
    · rcases Nat.lt_or_ge j (i + 1) with h2 | h2
      · exact .inl (.inr ⟨j, by omega, e⟩)
      · exact .inr (by rw [e, show j = i + 1 by omega])
theorem paths_same {gs : List Int} {ps ps' : List (List Int)} {i : Nat} {k : Int} (h : gs[i]? = some k) (hin : gs.take i ++ [k] ∈ ps') (hps : ∀ x, x ∈ ps' ↔ x ∈ ps ∨ ∃ j ≤ i, x = gs.take j) :
    ∀ x, x ∈ ps' ↔ x ∈ ps ∨ ∃ j ≤ i + 1, x = gs.take j := by
  intro x
  rw [← paths_next h hps x, List.mem_append, List.mem_singleton]
  exact ⟨.inl, fun hx => hx.elim id fun e => e ▸ hin⟩

theorem list_set {prog : Program} {w : World} {A : Around} {E : Value → Shared → Prop} {s : Shared} {l : Addr} {vs : List Value} {e : Nat} {k : Nat} {t : Tok} {v : Value} {Q : Unit → Shared → Prop}
    (ho : s.heap.get? l = some (listOf vs.toArray e)) (hk : k < vs.length) (hs : vs.length < 2 ^ 62)
    (h : ∀ h', Heap.SameBut l s.heap h' → h'.get? l = some (listOf (vs.set k v).toArray e) → Q () { s with heap := h' }) : wpAny (model prog w) A (setItem (.ref l) (.int (k : Nat) t) v) Q E s := by
  refine ki_setAt ho (by omega) (by omega) (by simp; omega) (h _ (Heap.SameBut.update _ _ _) ?_)
  rw [Heap.get?_update_self _ ho (by simp [Obj.mapSeq, Obj.isFreed])]
  simp [Obj.mapSeq]

/-- one object of a ledger changed -/
theorem news_put {g h h' : Heap} {L d : Addr} {l : List (Addr × Obj)} {i : Nat} {o o' : Obj} (N : News g L h l) (nod : (l.map (·.1)).Nodup) (hi : l[i]? = some (d, o)) (hs : Heap.SameBut d h h') (ho : h'.get? d = some o') :
    News g L h' (l.set i (d, o')) := by
  have D := N _ (List.mem_of_getElem? hi)
  have hl := (List.getElem?_eq_some_iff.mp hi).1
  intro p hp
  obtain ⟨j, hj⟩ := List.mem_iff_getElem?.mp hp
  by_cases e : i = j
  · subst e
    simp only [List.getElem?_set, hl, if_true] at hj
    cases hj
    exact ⟨ho, D.2⟩
  · rw [List.getElem?_set_ne e] at hj
    have P := N p (List.mem_of_getElem? hj)
    refine ⟨(hs.2 p.1 fun q => e ?_).trans P.1, P.2⟩
    have h1 : (l.map (·.1))[i]? = some d := by rw [List.getElem?_map, hi]; rfl
    have h2 : (l.map (·.1))[j]? = some d := by rw [List.getElem?_map, hj, ← q]; rfl
    exact (List.getElem?_inj (by simpa using hl) nod).mp (h1.trans h2.symm)
theorem fr_put {g h h' : Heap} {L d : Addr} {m : Str → Option Value} {l : List (Addr × Obj)} {o : Obj} (F : Fr g L h m) (N : News g L h l) (hm : (d, o) ∈ l) (hs : Heap.SameBut d h h') : Fr g L h' m :=
  F.change hs (N _ hm).2.1 (N _ hm).2.2
end Mine

open PySem PySem.W PySem.Calls PyProof.Rows
set_option Elab.async false
set_option maxRecDepth 100000
namespace Mine
theorem freshLoops : True := by w_top off; trivial
section
variable {prog : Program} {w : World} {A : Around} {s : Shared} {env : Env} {g : Heap}

/-- what a turn of a loop hands back -/
def TurnEnd (g : Heap) (L : Addr) (I : Addr) (oI : Obj) (deps : List (Addr × Obj)) (J : (Str → Option Value) → List (Addr × Obj) → Prop) (s s₂ : Shared) : Prop :=
  ∃ h' tk' m' news', s₂ = { s with heap := h', toks := tk' } ∧ Fr g L h' m' ∧ News g L h' (news' ++ [(I, oI)]) ∧ (∀ p ∈ news', p.1 ≠ I) ∧ (∀ p ∈ deps, h'.get? p.1 = some p.2) ∧ J m' news'
def TurnPost (g : Heap) (L : Addr) (I : Addr) (oI : Obj) (deps : List (Addr × Obj)) (J : (Str → Option Value) → List (Addr × Obj) → Prop) (R : Result → Shared → Prop) (s : Shared) (f : Flow) (s₂ : Shared) : Prop :=
  match f with
  | .ret v => R (.ok (.ret v)) s₂
  | .brk => R (.ok .next) s₂
  | _ => TurnEnd g L I oI deps J s s₂

theorem letGo_listiter {E : Value → Shared → Prop} {target : Expr} {I t : Addr} {i : Nat} {v : Value} {Q' : Unit → Shared → Prop} {s' : Shared} (hit : s'.heap.IsListIter I t i) (h : Q' () s') : wpAny (model prog w) A (letOwnedTupleGo target (.ref I) v) Q' E s' := by
  obtain ⟨o, ho, hc, hd⟩ := hit
  unfold letOwnedTupleGo
  split
  all_goals first
    | exact wpAny_pure h
    | (split
       all_goals first
         | (rename_i e; simp only [Prod.mk.injEq, Value.ref.injEq] at e; obtain ⟨rfl, rfl⟩ := e; refine wpAny_bind (wpAny_load ho ?_); rw [hc, hd]; exact wpAny_pure h)
         | exact wpAny_pure h)
theorem letGo_rangeiter {E : Value → Shared → Prop} {target : Expr} {I : Addr} {x left step : Int} {v : Value} {Q' : Unit → Shared → Prop} {s' : Shared} (hit : IsRangeIter s'.heap I x left step) (h : Q' () s') : wpAny (model prog w) A (letOwnedTupleGo target (.ref I) v) Q' E s' := by
  unfold letOwnedTupleGo
  split
  all_goals first
    | exact wpAny_pure h
    | (split
       all_goals first
         | (rename_i e; simp only [Prod.mk.injEq, Value.ref.injEq] at e; obtain ⟨rfl, rfl⟩ := e; refine wpAny_bind (wpAny_load hit ?_); exact wpAny_pure h)
         | exact wpAny_pure h)

theorem forW {R : Result → Shared → Prop} {target : Expr} {body : List Stmt} {I : Addr} {deps : List (Addr × Obj)} {n : Nat} {P : Nat → Value → Prop} {St : Nat → Heap → Prop} {m₀ : Str → Option Value} {news₀ : List (Addr × Obj)}
    (W : Walks prog w A I (I :: deps.map (·.1)) [I] n P St) (hgo : ∀ i v (s : Shared) (Q : Unit → Shared → Prop) (E : Value → Shared → Prop), St i s.heap → Q () s → wpAny (model prog w) A (letOwnedTupleGo target (.ref I) v) Q E s) (hgI : g.get? I = none) (hLI : env.locals ≠ I) (hlive : ∀ i h, St i h → ∃ o, h.get? I = some o)
    (hst : St 0 s.heap) (F : Fr g env.locals s.heap m₀) (N : News g env.locals s.heap news₀) (hnw : ∀ p ∈ news₀, p.1 ≠ I)
    (hd : ∀ p ∈ deps, s.heap.get? p.1 = some p.2) (hdI : ∀ p ∈ deps, p.1 ≠ I)
    (J : Nat → (Str → Option Value) → List (Addr × Obj) → Prop) (h0 : J 0 m₀ news₀)
    (turn : ∀ i v m₁ news₁ h tk oI, i < n → P i v → J i m₁ news₁ → (∀ p ∈ news₁, p.1 ≠ I) → (∀ p ∈ deps, h.get? p.1 = some p.2) → Fr g env.locals h m₁ → News g env.locals h (news₁ ++ [(I, oI)]) →
      wpAny (model prog w) A (assign target env v) (fun _ s₁ => wpAny (model prog w) A (execs body env) (TurnPost g env.locals I oI deps (J (i + 1)) R { s with heap := h, toks := tk }) (fun _ _ => False) s₁) (fun _ _ => False) { s with heap := h, toks := tk })
    (done : ∀ h' tk m' news', J n m' news' → Fr g env.locals h' m' → News g env.locals h' news' → (∀ p ∈ deps, h'.get? p.1 = some p.2) → R (.ok .next) { s with heap := h', toks := tk }) :
    codeAny (model prog w) A (.forLoop target (.ref I) body [] env) R s := by
  refine codeAny_forLoop_any
    (fun k s' => ∀ GG : Prop, (∀ h' tk m' news' i, s' = { s with heap := h', toks := tk } → St i h' → Fr g env.locals h' m' → News g env.locals h' news' → (∀ p ∈ news', p.1 ≠ I) → (∀ p ∈ deps, h'.get? p.1 = some p.2) → J i m' news' → i ≤ n → k = n + 1 - i → GG) → GG) ?_ (n + 1)
    (fun GG kk => kk s.heap s.toks m₀ news₀ 0 rfl hst F N hnw hd h0 (Nat.zero_le _) rfl)
  intro k s' hI9
  refine hI9 _ ?_
  clear hI9
  rintro h' tk m' news' i rfl hst' F' N' hnw' hd' hJ hi rfl
  have next : ∀ h₁ : Heap, (∀ b o, b ∉ [I] → h'.get? b = some o → h₁.get? b = some o) → Fr g env.locals h₁ m' ∧ News g env.locals h₁ news' ∧ (∀ p ∈ deps, h₁.get? p.1 = some p.2) := fun h₁ hk₁ => by
    have hk : ∀ b o, b ≠ I → h'.get? b = some o → h₁.get? b = some o := fun b o hb e => hk₁ b o (by simpa using hb) e
    refine ⟨⟨F'.ns.at' fun o e => hk _ o hLI e, fun b o e => hk b o (fun q => ?_) (F'.keep b o e), F'.above⟩, fun p hp => ⟨hk _ _ (hnw' p hp) (N' p hp).1, (N' p hp).2⟩, fun p hp => hk _ _ (hdI p hp) (hd' p hp)⟩
    rw [q, hgI] at e; cases e
  by_cases hlt : i < n
  · refine W.item i _ _ _ hlt hst' fun v h₁ tk₁ hP hst₁ hk₁ => ?_
    obtain ⟨F₁, N₁, D₁⟩ := next h₁ hk₁
    obtain ⟨oI, hoI⟩ := hlive _ _ hst₁
    have N₂ : News g env.locals h₁ (news' ++ [(I, oI)]) := fun p hp => by
      rcases List.mem_append.mp hp with hp | hp
      · exact N₁ p hp
      · rw [List.mem_singleton.mp hp]; exact ⟨hoI, Ne.symm hLI, hgI⟩
    refine hgo _ _ _ _ _ hst₁ ?_
    refine wpAny_mono (turn i v m' news' h₁ tk₁ oI hlt hP hJ hnw' D₁ F₁ N₂) (fun _ s₂ h₂ => wpAny_mono h₂ (fun f s₃ h₃ => ?_) fun _ _ x => x.elim) fun _ _ x => x.elim
    have fin : TurnEnd g env.locals I oI deps (J (i + 1)) { s with heap := h₁, toks := tk₁ } s₃ → ∃ m, m < n + 1 - i ∧ ∀ GG : Prop, (∀ h' tk m' news' i, s₃ = { s with heap := h', toks := tk } → St i h' → Fr g env.locals h' m' → News g env.locals h' news' → (∀ p ∈ news', p.1 ≠ I) → (∀ p ∈ deps, h'.get? p.1 = some p.2) → J i m' news' → i ≤ n → m = n + 1 - i → GG) → GG := by
      rintro ⟨h₃', tk₃, m₂, news₂, rfl, F₃, N₃, hn₃, D₃, hJ₃⟩
      refine ⟨n + 1 - (i + 1), by omega, fun GG kk => kk h₃' tk₃ m₂ news₂ (i + 1) rfl ?_ F₃ (fun p hp => N₃ p (List.mem_append_left _ hp)) hn₃ D₃ hJ₃ hlt rfl⟩
      refine W.frame _ _ _ hst₁ fun b hb o e => ?_
      rcases List.mem_cons.mp hb with rfl | hb
      · have := (N₃ (_, oI) (List.mem_append_right _ (List.mem_singleton.mpr rfl))).1
        rw [hoI] at e; rw [← Option.some.inj e]; exact this
      · obtain ⟨p, hp, rfl⟩ := List.mem_map.mp hb
        rw [D₁ p hp] at e; rw [← Option.some.inj e]; exact D₃ p hp
    cases f with
    | ret v => exact h₃
    | brk => exact h₃
    | next => exact fin h₃
    | cont => exact fin h₃
  · have hin : i = n := by omega
    subst hin
    refine W.done _ _ _ hst' fun h₁ tk₁ hk₁ => wpAny_execs_nil ?_
    obtain ⟨F₁, N₁, D₁⟩ := next h₁ hk₁
    exact done h₁ tk₁ m' news' hJ F₁ N₁ D₁

/-- for over a list, a tuple, a range: behind its iter -/
theorem iter_list {R : Result → Shared → Prop} {E : Value → Shared → Prop} {target : Expr} {body : List Stmt} {ax : Addr} {vs : List Value} {e : Nat} {m₀ : Str → Option Value} {news₀ : List (Addr × Obj)}
    (hh : A.handled = none) (hl : s.heap.get? ax = some (listOf vs.toArray e)) (F : Fr g env.locals s.heap m₀) (N : News g env.locals s.heap news₀)
    (J : Nat → (Str → Option Value) → List (Addr × Obj) → Prop) (h0 : J 0 m₀ news₀)
    (turn : ∀ I i v m₁ news₁ h tk oI, vs[i]? = some v → J i m₁ news₁ → s.heap.get? I = none → (∀ p ∈ news₁, p.1 ≠ I) → h.get? ax = some (listOf vs.toArray e) → Fr g env.locals h m₁ → News g env.locals h (news₁ ++ [(I, oI)]) →
      wpAny (model prog w) A (assign target env v) (fun _ s₁ => wpAny (model prog w) A (execs body env) (TurnPost g env.locals I oI [(ax, listOf vs.toArray e)] (J (i + 1)) R { s with heap := h, toks := tk }) (fun _ _ => False) s₁) (fun _ _ => False) { s with heap := h, toks := tk })
    (done : ∀ h' tk m' news', J vs.length m' news' → Fr g env.locals h' m' → News g env.locals h' news' → h'.get? ax = some (listOf vs.toArray e) → R (.ok .next) { s with heap := h', toks := tk }) :
    wpAny (model prog w) A (pyIter (.ref ax)) (fun it s₂ => codeAny (model prog w) A (.forLoop target it body [] env) R s₂) E s := by
  refine wpAny_pyIter_list (isList_of hl) ?_
  have hne : ax ≠ s.heap.objs.size := Nat.ne_of_lt (Heap.lt_size hl)
  have W := Walks.list (prog := prog) (w := w) hh s.heap.objs.size ax hne vs.toArray
  have fresh : s.heap.get? s.heap.objs.size = none := none_of_size (Nat.le_refl _)
  refine forW (deps := [(ax, listOf vs.toArray e)]) (news₀ := news₀) W (fun i v s Q E st h => letGo_listiter st.1 h) (none_of_stays (fun b o e => F.keep b o e) fresh) (Nat.ne_of_lt F.ns.lt) (fun i h st => let ⟨o, ho, _⟩ := st.1; ⟨o, ho⟩)
    ⟨⟨_, Heap.get?_push_size _ rfl, rfl, rfl⟩, (isList_of hl).at fun o e => Heap.get?_push_of_some _ e⟩ (F.push _) (fun p hp => ⟨Heap.get?_push_of_some _ (N p hp).1, (N p hp).2⟩) (fun p hp => Nat.ne_of_lt (Heap.lt_size (N p hp).1))
    (fun p hp => by rw [List.mem_singleton.mp hp]; exact Heap.get?_push_of_some _ hl) (fun p hp => by rw [List.mem_singleton.mp hp]; exact hne) J h0
    (fun i v m₁ news₁ h tk oI hi hP hJ hn hd F₁ N₁ => turn _ i v m₁ news₁ h tk oI (by simpa using hP) hJ fresh hn (hd _ (List.mem_singleton.mpr rfl)) F₁ N₁)
    fun h' tk m' news' hJ F₁ N₁ hd => done h' tk m' news' (by simpa using hJ) F₁ N₁ (hd _ (List.mem_singleton.mpr rfl))

abbrev tupOf (its : Array Value) (n : Nat) : Obj := { cls := .type "tuple", data := .seq its n }
theorem isTuple_of {h : Heap} {l : Addr} {vs : Array Value} {n : Nat} (e : h.get? l = some (tupOf vs n)) : h.IsTuple l vs := ⟨_, e, rfl, n, rfl⟩

theorem iter_tuple {R : Result → Shared → Prop} {E : Value → Shared → Prop} {target : Expr} {body : List Stmt} {ax : Addr} {vs : List Value} {e : Nat} {m₀ : Str → Option Value} {news₀ : List (Addr × Obj)}
    (hh : A.handled = none) (hl : s.heap.get? ax = some (tupOf vs.toArray e)) (F : Fr g env.locals s.heap m₀) (N : News g env.locals s.heap news₀)
    (J : Nat → (Str → Option Value) → List (Addr × Obj) → Prop) (h0 : J 0 m₀ news₀)
    (turn : ∀ I i v m₁ news₁ h tk oI, vs[i]? = some v → J i m₁ news₁ → s.heap.get? I = none → (∀ p ∈ news₁, p.1 ≠ I) → h.get? ax = some (tupOf vs.toArray e) → Fr g env.locals h m₁ → News g env.locals h (news₁ ++ [(I, oI)]) →
      wpAny (model prog w) A (assign target env v) (fun _ s₁ => wpAny (model prog w) A (execs body env) (TurnPost g env.locals I oI [(ax, tupOf vs.toArray e)] (J (i + 1)) R { s with heap := h, toks := tk }) (fun _ _ => False) s₁) (fun _ _ => False) { s with heap := h, toks := tk })
    (done : ∀ h' tk m' news', J vs.length m' news' → Fr g env.locals h' m' → News g env.locals h' news' → h'.get? ax = some (tupOf vs.toArray e) → R (.ok .next) { s with heap := h', toks := tk }) :
    wpAny (model prog w) A (pyIter (.ref ax)) (fun it s₂ => codeAny (model prog w) A (.forLoop target it body [] env) R s₂) E s := by
  refine wpAny_pyIter_tuple (isTuple_of hl) ?_
  have hne : ax ≠ s.heap.objs.size := Nat.ne_of_lt (Heap.lt_size hl)
  have W := Walks.tuple (prog := prog) (w := w) hh s.heap.objs.size ax hne vs.toArray
  have fresh : s.heap.get? s.heap.objs.size = none := none_of_size (Nat.le_refl _)
  refine forW (deps := [(ax, tupOf vs.toArray e)]) (news₀ := news₀) W (fun i v s Q E st h => letGo_tupleiter st.1 h) (none_of_stays (fun b o e => F.keep b o e) fresh) (Nat.ne_of_lt F.ns.lt) (fun i h st => let ⟨o, ho, _⟩ := st.1; ⟨o, ho⟩)
    ⟨⟨_, Heap.get?_push_size _ rfl, rfl, rfl⟩, (isTuple_of hl).at fun o e => Heap.get?_push_of_some _ e⟩ (F.push _) (fun p hp => ⟨Heap.get?_push_of_some _ (N p hp).1, (N p hp).2⟩) (fun p hp => Nat.ne_of_lt (Heap.lt_size (N p hp).1))
    (fun p hp => by rw [List.mem_singleton.mp hp]; exact Heap.get?_push_of_some _ hl) (fun p hp => by rw [List.mem_singleton.mp hp]; exact hne) J h0
    (fun i v m₁ news₁ h tk oI hi hP hJ hn hd F₁ N₁ => turn _ i v m₁ news₁ h tk oI (by simpa using hP) hJ fresh hn (hd _ (List.mem_singleton.mpr rfl)) F₁ N₁)
    fun h' tk m' news' hJ F₁ N₁ hd => done h' tk m' news' (by simpa using hJ) F₁ N₁ (hd _ (List.mem_singleton.mpr rfl))

theorem iter_range {R : Result → Shared → Prop} {E : Value → Shared → Prop} {target : Expr} {body : List Stmt} {r : Addr} {a b : Int} {t u v : Tok} {n : Nat} {m₀ : Str → Option Value} {news₀ : List (Addr × Obj)}
    (hh : A.handled = none) (hr : IsRange s.heap r a b 1 t u v) (hsmall : Builtin.Range.small a b 1 = true) (hn : Builtin.Range.rangeSize a b 1 = (n : Int)) (F : Fr g env.locals s.heap m₀) (N : News g env.locals s.heap news₀)
    (J : Nat → (Str → Option Value) → List (Addr × Obj) → Prop) (h0 : J 0 m₀ news₀)
    (turn : ∀ I i t m₁ news₁ h tk oI, i < n → J i m₁ news₁ → s.heap.get? I = none → (∀ p ∈ news₁, p.1 ≠ I) → Fr g env.locals h m₁ → News g env.locals h (news₁ ++ [(I, oI)]) →
      wpAny (model prog w) A (assign target env (.int (a + (i : Nat)) t)) (fun _ s₁ => wpAny (model prog w) A (execs body env) (TurnPost g env.locals I oI [] (J (i + 1)) R { s with heap := h, toks := tk }) (fun _ _ => False) s₁) (fun _ _ => False) { s with heap := h, toks := tk })
    (done : ∀ h' tk m' news', J n m' news' → Fr g env.locals h' m' → News g env.locals h' news' → R (.ok .next) { s with heap := h', toks := tk }) :
    wpAny (model prog w) A (pyIter (.ref r)) (fun it s₂ => codeAny (model prog w) A (.forLoop target it body [] env) R s₂) E s := by
  refine wpAny_pyIter_range hr hsmall ?_
  rw [hn]
  have W := Walks.range (prog := prog) (w := w) hh s.heap.objs.size a 1 n
  have fresh : s.heap.get? s.heap.objs.size = none := none_of_size (Nat.le_refl _)
  refine forW (deps := []) (news₀ := news₀) W (fun i v s Q E st h => letGo_rangeiter st h) (none_of_stays (fun b o e => F.keep b o e) fresh) (Nat.ne_of_lt F.ns.lt) (fun i h st => ⟨_, st⟩)
    ?_ (F.push _) (fun p hp => ⟨Heap.get?_push_of_some _ (N p hp).1, (N p hp).2⟩) (fun p hp => Nat.ne_of_lt (Heap.lt_size (N p hp).1))
    (fun p hp => nomatch hp) (fun p hp => nomatch hp) J h0
    (fun i v m₁ news₁ h tk oI hi hP hJ hn hd F₁ N₁ => ?_)
    fun h' tk m' news' hJ F₁ N₁ hd => done h' tk m' news' hJ F₁ N₁
  · show Heap.get? _ _ = some _
    simpa using Heap.get?_push_size s.heap (o := { cls := .type "range_iterator", data := .fields #[rawInt a, rawInt n, rawInt 1] }) rfl
  · obtain ⟨t', rfl⟩ := hP
    rw [Int.mul_one]
    exact turn _ i t' m₁ news₁ h tk oI hi hJ fresh hn F₁ N₁
end

/-- a name's assignment in the head of a for -/
theorem assign_name {M : Model} {A : Around} {E : Value → Shared → Prop} {s : Shared} {env : Env} {g : Heap} {x : Str} {px : Pos} {v : Value} {m : Str → Option Value} {news : List (Addr × Obj)} {Q : Unit → Shared → Prop}
    (hx : env.kindOf x = some .local) (hp : (env.scope.kind == .class || (env.scope.kind == .module && env.locals != env.globals)) = false) (F : Fr g env.locals s.heap m) (N : News g env.locals s.heap news)
    (h : ∀ h', Fr g env.locals h' (fun y => if y = x then some v else m y) → News g env.locals h' news → Heap.SameBut env.locals s.heap h' → Q () { s with heap := h', toks := s.toks + 1 }) :
    wpAny M A (assign (.Name x px) env v) Q E s :=
  wpAny_assign_Name (wpAny_storeName_local hx F.ns (fun h' hn hs => h h' (F.set hn hs) (N.set hs) hs) hp)
theorem mkTurn {g h' : Heap} {L I : Addr} {oI : Obj} {deps : List (Addr × Obj)} {J : (Str → Option Value) → List (Addr × Obj) → Prop} {s : Shared} {tk' : Nat} {m' : Str → Option Value} {news' : List (Addr × Obj)} (F : Fr g L h' m') (N : News g L h' (news' ++ [(I, oI)])) (hn : ∀ p ∈ news', p.1 ≠ I) (hd : ∀ p ∈ deps, h'.get? p.1 = some p.2) (hJ : J m' news') :
    TurnEnd g L I oI deps J s { s with heap := h', toks := tk' } := ⟨h', tk', m', news', rfl, F, N, hn, hd, hJ⟩
end Mine

open PySem PySem.W PySem.Calls PyProof.Rows
set_option Elab.async false
set_option maxRecDepth 100000
namespace Mine
theorem freshDraw : True := by w_top off; trivial
local macro_rules | `(tactic| walk_at "M") => `(tactic| repeat' (first | (k_unfold; (try dsimp only)) | (with_reducible refine wpAny_execs_nil ?_; try dsimp only) | (walk1 <;> (try dsimp only))))

set_option maxHeartbeats 4000000 in
theorem draw_spec {w : World} {A : Around} {s : Shared} {h₀ : Heap} {p c : Addr} {e ec : Nat} {ns : List Int} {vs : List Value} {i v many : Int} {t1 t2 tm : Tok} {Q : Value → Shared → Prop} {E : Value → Shared → Prop}
    (ok : Ok 3 A) (G : Gc w h₀) (st : h₀.StaysIn s.heap) (hp : s.heap.get? p = some (listOf #[.ref c, .int i t1, .int v t2] e)) (hp0 : h₀.get? p = none)
    (hc : s.heap.get? c = some (listOf vs.toArray ec)) (hcp : c ≠ p) (hi : IntsAre vs ns) (hns : 0 < ns.length) (hns1 : ns.length ≤ 42)
    (hi0 : 0 ≤ i) (hi1 : i < 1000) (hv : 0 ≤ v) (hm : 2 ≤ many) (hm1 : many ≤ 7)
    (h : ∀ d i' v' td t1' t2' h' tk', 0 ≤ d → d < many → 0 ≤ i' → i' ≤ i + 1 → 0 ≤ v' → (∀ b o, b ≠ p → s.heap.get? b = some o → h'.get? b = some o) →
      h'.get? p = some (listOf #[.ref c, .int i' t1', .int v' t2'] e) → Q (.int d td) { s with heap := h', toks := tk' }) :
    wpAny (model PySem.Challenge.rw_pb0154_01.row.prog w) A (call (.ref 126) [.ref p, .int many tm]) Q E s := by
  have _fill : (PySem.Challenge.rw_pb0154_01 = PySem.Challenge.rw_pb0154_01 ∧ hd.heap_39 = hd.heap_39) := by (k_fill; exact ⟨rfl, rfl⟩)
  refine wpAny_call ?_
  refine' enter (fp := [(p, listOf #[.ref c, .int i t1, .int v t2] e)]) (binds := [("pen", .ref p), ("many", .int many tm)]) ok.room G st ?hN ?ho ?hcd ?hbind ?hloc ?_ ?hcell ?hco ?hgen ?hk
  case hN => simp [hp, hp0]
  case ho => k_is
  case hcd => k_is
  case hbind => exact BindsTo.of_eq rfl
  case hloc => exact locs rfl
  case hcell => decide
  case hco => rfl
  case hgen => rfl
  case hk => rfl
  intro g L h₁ G' st' hb F N
  have X := G'.X
  obtain ⟨mean, mg, mb, T⟩ := G'.T
  have hcg : g.IsList c vs.toArray := ⟨_, hb c _ hc (by simpa using hcp), rfl, _, rfl⟩
  dsimp only
  show wpAny _ _ _ _ _ _
  k_fold
  walk_at "M"
  all_goals (rename Fr _ _ _ _ => F'; rename News _ _ _ _ => N')
  all_goals (refine h _ _ _ _ _ _ _ _ (fmod_lo _ (by omega)) (fmod_hi _ (by omega)) ?_ ?_ (Int.fdiv_nonneg ?_ (by omega)) (fun b o hb' e => F'.keep b o (hb b o e (by simpa using hb'))) (N' _ (List.Mem.head _)).1)
  all_goals first | omega | skip
  all_goals (have : 0 ≤ 7919 * (i + 1) * (i + 1) := Int.mul_nonneg (by omega) (by omega))
  all_goals omega
end Mine

open PySem PySem.W PySem.Calls PyProof.Rows
set_option Elab.async false
set_option maxRecDepth 100000
namespace Mine
theorem freshStep : True := by w_top off; trivial
local macro_rules | `(tactic| walk_at "M") => `(tactic| repeat' (first | (k_unfold; (try dsimp only)) | (with_reducible refine wpAny_execs_nil ?_; try dsimp only) | (walk1 <;> (try dsimp only))))

set_option maxHeartbeats 4000000 in
theorem step_spec {w : World} {A : Around} {s : Shared} {h₀ : Heap} {t : Addr} {D : TD} {ps : List (List Int)} {Ev : List Int → Option Int} {n : Nat} {q : List Int} {k : Int} {t1 t2 : Tok} {Q : Value → Shared → Prop} {E : Value → Shared → Prop}
    (ok : Ok 3 A) (G : Gc w h₀) (st : h₀.StaysIn s.heap) (TT : TrieAt w s.heap t D ps Ev) (fresh : ∀ p ∈ D.objs w t, h₀.get? p.1 = none) (hq : ps[n]? = some q)
    (h : ∀ v h' tk', StepVal ps q k v → s.heap.StaysIn h' → Q v { s with heap := h', toks := tk' }) :
    wpAny (model PySem.Challenge.rw_pb0154_01.row.prog w) A (call (.ref 56) [.ref t, .int (n : Int) t1, .int k t2]) Q E s := by
  have _fill : (PySem.Challenge.rw_pb0154_01 = PySem.Challenge.rw_pb0154_01 ∧ hd.heap_39 = hd.heap_39) := by (k_fill; exact ⟨rfl, rfl⟩)
  have hsub : ∀ p ∈ (D.objs w t).take 2, p ∈ D.objs w t := fun p hp => List.mem_of_mem_take hp
  refine wpAny_call ?_
  refine' enter (fp := (D.objs w t).take 2) (binds := [("self", .ref t), ("node", .int (n : Int) t1), ("glyph", .int k t2)]) ok.room G st ?hN ?ho ?hcd ?hbind ?hloc ?_ ?hcell ?hco ?hgen ?hk
  case hN => exact fun p hp => ⟨TT.1 p (hsub p hp), fresh p (hsub p hp)⟩
  case ho => k_is
  case hcd => k_is
  case hbind => exact BindsTo.of_eq rfl
  case hloc => exact locs rfl
  case hcell => decide
  case hco => rfl
  case hgen => rfl
  case hk => rfl
  intro g L h₁ G' st' hb F N
  have X := G'.X
  obtain ⟨mean, mg, mb, T⟩ := G'.T
  have hnd : D.nd.length = ps.length := TT.2.len
  have hn : n < D.nd.length := by rw [hnd]; exact (List.getElem?_eq_some_iff.mp hq).1
  obtain ⟨p, hp⟩ : ∃ p, D.nd[n]? = some p := ⟨_, List.getElem?_eq_getElem hn⟩
  obtain ⟨kvs, hd1, hd2, hd3⟩ := TT.2.kids n q p hp hq
  have big := TT.2.small
  have hlsm : (D.ls, listOf D.refs.toArray D.n2) ∈ D.objs w t := by simp [TD.objs]
  have hpm : p ∈ D.objs w t := by simp only [TD.objs, List.mem_cons]; exact .inr (.inr (.inr (.inr (List.mem_of_getElem? hp))))
  have nod := TT.2.addrs
  have off : ∀ x ∈ (D.objs w t).drop 2, g.get? x.1 = some x.2 := by
    intro x hx
    exact hb _ _ (TT.1 x (List.mem_of_mem_drop hx)) (drop_off nod 2 hx)
  have gls : g.IsList D.ls D.refs.toArray := isList_of (off (D.ls, listOf D.refs.toArray D.n2) (by simp [TD.objs]))
  have hpd : g.get? p.1 = some p.2 := off _ (by simp only [TD.objs, List.drop_succ_cons, List.drop_zero, List.mem_cons]; exact .inr (.inr (List.mem_of_getElem? hp)))
  simp only [TD.objs, List.take_succ_cons, List.take_zero] at N
  dsimp only
  show wpAny _ _ _ _ _ _
  k_fold
  walk_at "M"
  have k1 : h₁.IsList D.ls D.refs.toArray := gls.at fun o e => F.keep _ o e
  have hx : D.refs[((n : Int)).toNat]? = some (.ref p.1) := by simp [TD.refs, hp]
  refine my_item k1 (by omega) (by omega) hx ?_
  have hD : h₁.DictOf (PySem.intKind PR w) p.1 kvs := Heap.dictOf_iff.mpr ⟨p.2, F.keep _ _ hpd, hd1⟩
  try dsimp only
  refine getMethod_builtin (Heap.DictOf.typeIs (s := { s with heap := h₁, toks := _ }) hD) PySem.F.plainAttrs_dict PySem.F.slot_dict_get PySem.F.type_dict_get hD.mapOf.noDict ?_
  try dsimp only
  walk_at "M"
  have hlow := TT.2.low p (List.mem_of_getElem? hp)
  have keep := keep_of hb F (fun x hx => (N x (by simpa only [TD.objs, List.take_succ_cons, List.take_zero] using hx)).1) fun x hx => TT.1 x (hsub x hx)
  have fin : StepVal ps q k ((valueAt kvs k).getD (Value.int (-1) 197)) := by
    rcases hd2 k with ⟨e, hno⟩ | ⟨j, tk, e, hj⟩
    · rw [e]; exact .inr ⟨hno, _, rfl⟩
    · rw [e]; exact .inl ⟨j, tk, rfl, hj⟩
  refine call_meetsIn PySem.F.slot_dict_get (Heap.DictOf.typeIs (s := { s with heap := h₁, toks := _ }) hD) PySem.F.entry_dict_get (PySem.F.args_dict_get_3 _ _ _) (meets_dict_get_default (PySem.intKind PR w) p.1 (intKind_is _ _ _ _) hlow (Value.int (-1) 197)) ⟨_, hD.mapOf, ?_⟩
  exact h _ _ _ fin keep
end Mine

open PySem PySem.W PySem.Calls PyProof.Rows
set_option Elab.async false
set_option maxRecDepth 100000
namespace Mine
theorem freshT1 : True := by w_top off; trivial
local macro_rules | `(tactic| walk_at "M") => `(tactic| repeat' (first | (k_unfold; (try dsimp only)) | (with_reducible refine wpAny_execs_nil ?_; try dsimp only) | (walk1 <;> (try dsimp only))))

theorem make_new {prog : Program} {w : World} {A : Around} {s : Shared} {K : Frag} {C fI : Addr} {R : Result → Shared → Prop} {rest : List Value} {kw : List (Str × Value)} (X : K.In s.heap) (hm : makesIn K C = true)
    (hi : findIn K (.ref C) "__init__" = some (some (.ref fI))) (hf : typeIn K (.ref fI) = some (.type "function"))
    (h : codeAny (model prog w) (A.under (.builtin "type.__call__" ⟨.ref C :: rest, kw⟩)) (.call (.ref fI) ⟨.ref (s.heap.objs.size + 1) :: rest, kw⟩) (InitBack (s.heap.objs.size + 1) R)
      { s with heap := (s.heap.push emptyDict).push (instObj C s.heap.objs.size) }) :
    codeAny (model prog w) A (.call (.ref C) ⟨rest, kw⟩) R s := by
  obtain ⟨hh, g, d, t, os⟩ := s
  refine make_core (makes_of X hm) (looks_findIn X hi) (fun self => bind_fn X self hf) (.inl rfl) ?_
  simpa only [Heap.size_push] using h

theorem Ok.make {n : Nat} {A : Around} {C : Addr} {rest : List Value} (k : Ok (n + 1) A) : Ok n (A.under (.builtin "type.__call__" ⟨.ref C :: rest, []⟩)) :=
  ⟨k.hh, by have := k.dp; rw [depth_under_make]; omega, by have := k.un; rw [units_under_make]; omega⟩

set_option maxHeartbeats 4000000 in
theorem trie_new {w : World} {A : Around} {s : Shared} {h₀ : Heap} {Q : Value → Shared → Prop} {E : Value → Shared → Prop}
    (ok : Ok 5 A) (G : Gc w h₀) (st : h₀.StaysIn s.heap)
    (h : ∀ t D h' tk', TrieAt w h' t D [[]] (fun _ => none) → (∀ p ∈ D.objs w t, s.heap.get? p.1 = none) → s.heap.StaysIn h' → Q (.ref t) { s with heap := h', toks := tk' }) :
    wpAny (model PySem.Challenge.rw_pb0154_01.row.prog w) A (call (.ref 59) []) Q E s := by
  have _fill : (PySem.Challenge.rw_pb0154_01 = PySem.Challenge.rw_pb0154_01 ∧ hd.heap_39 = hd.heap_39) := by (k_fill; exact ⟨rfl, rfl⟩)
  refine wpAny_call ?_
  refine make_new (K := hd.heap_39 w.params) (fI := 35) (G.X.keeps st) (by k_is) (by k_is) (by k_is) ?_
  have okm : Ok 4 (A.under (.builtin "type.__call__" ⟨[.ref 59], []⟩)) := ok.make
  have k1 : s.heap.StaysIn ((s.heap.push emptyDict).push (instObj 59 s.heap.objs.size)) := fun b o e => Heap.get?_push_of_some _ (Heap.get?_push_of_some _ e)
  have hx : ((s.heap.push emptyDict).push (instObj 59 s.heap.objs.size)).get? (s.heap.objs.size + 1) = some (instObj 59 s.heap.objs.size) := by
    have := Heap.get?_push_size (s.heap.push emptyDict) (o := instObj 59 s.heap.objs.size) rfl
    rwa [Heap.size_push] at this
  have hdx : ((s.heap.push emptyDict).push (instObj 59 s.heap.objs.size)).get? s.heap.objs.size = some (dictOf [] 0) := Heap.get?_push_of_some _ (Heap.get?_push_size _ rfl)
  have nx0 : s.heap.get? (s.heap.objs.size + 1) = none := none_of_size (by omega)
  have nd0 : s.heap.get? s.heap.objs.size = none := none_of_size (Nat.le_refl _)
  have nx : h₀.get? (s.heap.objs.size + 1) = none := none_of_stays st nx0
  have nd : h₀.get? s.heap.objs.size = none := none_of_stays st nd0
  generalize hX : s.heap.objs.size + 1 = x at *
  generalize hD : s.heap.objs.size = dx at *
  generalize hH : (s.heap.push emptyDict).push (instObj 59 dx) = H at *
  refine' enter (s := { s with heap := H }) (fp := [(x, instObj 59 dx), (dx, dictOf [] 0)]) (binds := [("self", .ref x)]) okm.room G (fun b o e => k1 b o (st b o e)) ?hN ?ho ?hcd ?hbind ?hloc ?_ ?hcell ?hco ?hgen ?hk
  case hN => simp [hx, hdx, nx, nd]
  case ho => k_is
  case hcd => k_is
  case hbind => exact BindsTo.of_eq rfl
  case hloc => exact locs rfl
  case hcell => decide
  case hco => rfl
  case hgen => rfl
  case hk => rfl
  intro g L h₁ G' st' hb F N
  have X := G'.X
  obtain ⟨mean, mg, mb, T⟩ := G'.T
  have hlt : dx < x := by omega
  dsimp only
  show wpAny _ _ _ _ _ _
  k_fold
  walk_at "M"
  rename_i tk0 dN h4 oN lo hs fs hdd fi l1 lS h3 l2 h2 lE h1 l3 hF F' N'
  obtain ⟨ta, tb, N2⟩ : ∃ a b, News g L hF [(lE, W.listOf #[Value.int (-1) 197] 0), (lS, W.listOf #[Value.ref dN] 0), (dN, oN), (x, instObj 59 dx),
      (dx, dictOf [{ hash := PyData.keyHash w.params (Str.ofString "steps"), key := Value.str (Str.ofString "steps") a, val := Value.ref lS },
            { hash := PyData.keyHash w.params (Str.ofString "ends"), key := Value.str (Str.ofString "ends") b, val := Value.ref lE }] 2)] := ⟨_, _, N'⟩
  have keepH : s.heap.StaysIn hF := by
    intro b o e
    have e1 := k1 _ _ e
    refine F'.keep b o (hb b o e1 ?_)
    simp only [List.map_cons, List.map_nil, List.mem_cons, List.not_mem_nil, or_false, not_or]
    exact ⟨fun q => (by rw [q, nx0] at e; cases e), fun q => (by rw [q, nd0] at e; cases e)⟩
  have new : ∀ b, g.get? b = none → b ≠ x → b ≠ dx → s.heap.get? b = none := by
    intro b e n1 n2
    cases q : s.heap.get? b with
    | none => rfl
    | some o =>
      have := hb b o (k1 _ _ q) (by simp [n1, n2])
      rw [e] at this; cases this
  refine ⟨rfl, h x ⟨dx, lS, lE, ta, tb, 0, 0, [(dN, oN)], [.int (-1) 197]⟩ hF _ ⟨?_, ?_⟩ ?_ keepH⟩
  · intro p hp
    refine (N2 p ?_).1
    simp only [TD.objs, TD.refs, List.map_cons, List.map_nil, List.mem_cons, List.not_mem_nil, or_false] at hp ⊢
    rcases hp with h | h | h | h | h <;> simp [h]
  · refine ⟨rfl, rfl, by decide, ?_, ?_, by decide, rfl, ?_, ?_, ?_, ?_⟩
    · intro i q p hp hq
      cases i with
      | zero =>
        cases hp; cases hq
        exact ⟨[], hdd, fun k => .inl ⟨rfl, by simp⟩, by simp⟩
      | succ i => simp at hp
    · intro i q hq
      cases i with
      | zero => exact ⟨197, rfl⟩
      | succ i => simp at hq
    · intro q k hk; simp at hk
    · intro q e he; cases he
    · simp only [TD.objs, List.map_cons, List.map_nil, List.nodup_cons, List.mem_cons, List.not_mem_nil, or_false, not_or, not_false_eq_true, List.nodup_nil, and_true]
      refine ⟨⟨?_, ?_, ?_, ?_⟩, ⟨?_, ?_, ?_⟩, ⟨?_, ?_⟩, ?_⟩ <;> first | exact Nat.ne_of_gt (by omega) | exact Nat.ne_of_lt (by omega)
    · intro p hp; rw [List.mem_singleton.mp hp]; exact lo
  · intro p hp
    have hp' : p ∈ [(lE, W.listOf #[Value.int (-1) 197] 0), (lS, W.listOf #[Value.ref dN] 0), (dN, oN), (x, instObj 59 dx),
      (dx, dictOf [{ hash := PyData.keyHash w.params (Str.ofString "steps"), key := Value.str (Str.ofString "steps") ta, val := Value.ref lS },
            { hash := PyData.keyHash w.params (Str.ofString "ends"), key := Value.str (Str.ofString "ends") tb, val := Value.ref lE }] 2)] := by
      simp only [TD.objs, TD.refs, List.map_cons, List.map_nil, List.mem_cons, List.not_mem_nil, or_false] at hp ⊢
      rcases hp with h | h | h | h | h <;> simp [h]
    have hg := (N2 p hp').2.2
    by_cases e1 : p.1 = x
    · rw [e1]; exact nx0
    · by_cases e2 : p.1 = dx
      · rw [e2]; exact nd0
      · exact new _ hg e1 e2
end Mine

open PySem PySem.W PySem.Calls PyProof.Rows
set_option Elab.async false
set_option maxRecDepth 100000
namespace Mine
theorem freshWords : True := by w_top off; trivial

abbrev AtHeap (h : Heap) : Addr → Obj → Prop := fun a o => h.get? a = some o
abbrev AtNews (l : List (Addr × Obj)) : Addr → Obj → Prop := fun a o => (a, o) ∈ l

/-- a pair (word, ligature) as it lies -/
def WordIn (Has : Addr → Obj → Prop) (v : Value) (x : List Int × Int) : Prop :=
  ∃ p wa vs tk n1 n2, v = .ref p ∧ Has p (tupOf #[.ref wa, .int x.2 tk] n1) ∧ Has wa (tupOf (vs : List Value).toArray n2) ∧ IntsAre vs x.1
/-- the list of the words as it lies -/
structure WordsIn (Has : Addr → Obj → Prop) (items : List Value) (W : List (List Int × Int)) : Prop where
  len : items.length = W.length
  word : ∀ (i : Nat) v, items[i]? = some v → ∃ x, W[i]? = some x ∧ WordIn Has v x
theorem WordIn.mono {H H' : Addr → Obj → Prop} {v : Value} {x : List Int × Int} (k : ∀ a o, H a o → H' a o) (h : WordIn H v x) : WordIn H' v x :=
  let ⟨p, wa, vs, tk, n1, n2, e, h1, h2, h3⟩ := h; ⟨p, wa, vs, tk, n1, n2, e, k _ _ h1, k _ _ h2, h3⟩
theorem WordsIn.mono {H H' : Addr → Obj → Prop} {items : List Value} {W : List (List Int × Int)} (k : ∀ a o, H a o → H' a o) (h : WordsIn H items W) : WordsIn H' items W :=
  ⟨h.len, fun i v e => let ⟨x, e1, e2⟩ := h.word i v e; ⟨x, e1, e2.mono k⟩⟩

theorem fr_call {g h h' : Heap} {L : Addr} {m : Str → Option Value} {fp : List (Addr × Obj)} (F : Fr g L h m) (N : News g L h fp) (keep : ∀ b o, b ∉ fp.map (·.1) → h.get? b = some o → h'.get? b = some o) : Fr g L h' m := by
  have off : ∀ b, (∃ o, g.get? b = some o) ∨ b = L → b ∉ fp.map (·.1) := fun b hb hm => by
    obtain ⟨p, hp, rfl⟩ := List.mem_map.mp hm
    rcases hb with ⟨o, e⟩ | e
    · rw [(N p hp).2.2] at e; cases e
    · exact (N p hp).2.1 e
  exact ⟨F.ns.at' fun o e => keep _ _ (off _ (.inr rfl)) e, fun b o e => keep _ _ (off _ (.inl ⟨o, e⟩)) (F.keep b o e), F.above⟩
theorem fr_new {g h : Heap} {L b : Addr} {m : Str → Option Value} (F : Fr g L h m) (e : h.get? b = none) : b ≠ L ∧ g.get? b = none := by
  refine ⟨fun q => ?_, none_of_stays (fun a o e => F.keep a o e) e⟩
  obtain ⟨o, _, _, ho, _⟩ := F.ns
  rw [q, ho] at e; cases e
/-- objects made by a call go onto the ledger -/
theorem news_new {g h h' : Heap} {L : Addr} {m : Str → Option Value} {l : List (Addr × Obj)} (F : Fr g L h m) (hl : ∀ p ∈ l, h'.get? p.1 = some p.2 ∧ h.get? p.1 = none) : News g L h' l :=
  fun p hp => ⟨(hl p hp).1, fr_new F (hl p hp).2⟩
theorem news_app {g h : Heap} {L : Addr} {l l' : List (Addr × Obj)} (N : News g L h l) (N' : News g L h l') : News g L h (l ++ l') := fun p hp => (List.mem_append.mp hp).elim (N p) (N' p)
theorem news_sub {g h : Heap} {L : Addr} {l l' : List (Addr × Obj)} (N : News g L h l) (s : ∀ p ∈ l', p ∈ l) : News g L h l' := fun p hp => N p (s p hp)
theorem news_off {g h h' : Heap} {L : Addr} {l : List (Addr × Obj)} {fp : List (Addr × Obj)} (N : News g L h l) (keep : ∀ b o, b ∉ fp.map (·.1) → h.get? b = some o → h'.get? b = some o) (off : ∀ p ∈ l, p.1 ∉ fp.map (·.1)) : News g L h' l :=
  fun p hp => ⟨keep _ _ (off p hp) (N p hp).1, (N p hp).2⟩

theorem assign_pair {prog : Program} {w : World} {A : Around} {E : Value → Shared → Prop} {s : Shared} {env : Env} {g : Heap} {a b : Str} {pa pb tp : Pos} {kk n : Nat} {T : Addr} {x y : Value} {m : Str → Option Value} {news : List (Addr × Obj)} {Q : Unit → Shared → Prop}
    (hh : A.handled = none) (ht : s.heap.get? T = some (tupOf #[x, y] n)) (ha : env.kindOf a = some .local) (hb : env.kindOf b = some .local)
    (hp : (env.scope.kind == .class || (env.scope.kind == .module && env.locals != env.globals)) = false) (F : Fr g env.locals s.heap m) (N : News g env.locals s.heap news)
    (h : ∀ (h' : Heap) (tk : Nat), Fr g env.locals h' (fun z => if z = b then some y else if z = a then some x else m z) → News g env.locals h' news → (∀ c o, c ≠ env.locals → s.heap.get? c = some o → h'.get? c = some o) → Q () { s with heap := h', toks := tk }) :
    wpAny (model prog w) A (assign (.Tuple [.Name a pa, .Name b pb] kk tp) env (.ref T)) Q E s :=
  kcp_assign hh (isTuple_of ht) ha hb hp F.ns fun h' tk hn hk => h h' tk
    ⟨hn, fun c o e => hk c o (fun q => by
      have := F.above
      have h2 := Heap.lt_size e
      rw [q] at h2
      exact absurd h2 (Nat.not_lt.mpr this)) (F.keep c o e), F.above⟩
    (fun p hp => ⟨hk _ _ (N p hp).2.1 (N p hp).1, (N p hp).2⟩) hk

/-- the ends that the words make -/
def EvOf (W : List (List Int × Int)) : List Int → Option Int := W.foldl (fun E p x => if x = p.1 then some p.2 else E x) (fun _ => none)
theorem EvOf_snoc (W : List (List Int × Int)) (p : List Int × Int) : EvOf (W ++ [p]) = fun x => if x = p.1 then some p.2 else EvOf W x := by
  unfold EvOf; rw [List.foldl_append]; rfl
end Mine

open PySem PySem.W PySem.Calls PyProof.Rows
set_option Elab.async false
set_option maxRecDepth 100000
namespace Mine
theorem freshAdd : True := by w_top off; trivial
local macro_rules | `(tactic| walk_at "IN") => `(tactic| first | (with_reducible assumption) | exact List.mem_cons_self | ((with_reducible refine List.mem_append_left _ ?_); walk_at "IN") | ((with_reducible refine List.mem_append_right _ ?_); walk_at "IN") | ((with_reducible refine List.mem_cons_of_mem _ ?_); walk_at "IN") | (refine List.mem_cons_of_mem _ ?_; walk_at "IN") | (simp; done))
local macro_rules | `(tactic| walk_at "SUB") => `(tactic| first | exact subNil | ((with_reducible refine subApp ?_ ?_) <;> walk_at "SUB") | (refine subCons ?_ ?_; (walk_at "IN"); walk_at "SUB") | (intro q hq; walk_at "IN"))
local macro_rules | `(tactic| walk_at "STOP") => `(tactic| ((fail_if_success (with_reducible show wpAny _ _ (exec (Stmt.For _ _ _ _ _) _) _ _ _)); (fail_if_success (with_reducible show wpAny _ _ (exec (Stmt.While _ _ _ _) _) _ _ _)); (fail_if_success (with_reducible show wpAny _ _ (PySem.call (Value.ref _) _ _) _ _ _)); (fail_if_success (with_reducible show wpAny _ _ (eval (Expr.ListComp _ _ _ _) _) _ _ _))))
local macro_rules | `(tactic| walk_at "M") => `(tactic| repeat' (first | (k_unfold; (try dsimp only)) | (with_reducible refine wpAny_execs_nil ?_; try dsimp only) | (walk_at "STOP"; walk1 <;> (try dsimp only))))
local macro_rules | `(tactic| walk_at "ENTER") => `(tactic| ((case ho => k_is); (case hcd => k_is); (case hbind => exact BindsTo.of_eq rfl); (case hloc => exact locs rfl); (case hcell => decide); (case hco => rfl); (case hgen => rfl); (case hk => rfl)))
local macro_rules | `(tactic| walk_at "FOLD") => `(tactic| ((try dsimp only); (try (show wpAny _ _ _ _ _ _)); (try k_fold)))

set_option maxHeartbeats 4000000 in
theorem add_spec {w : World} {A : Around} {s : Shared} {h₀ : Heap} {t a : Addr} {ea : Nat} {D : TD} {ps : List (List Int)} {Ev : List Int → Option Int} {gs : List Int} {vs : List Value} {l : Int} {tl : Tok} {Q : Value → Shared → Prop} {E : Value → Shared → Prop}
    (ok : Ok 3 A) (G : Gc w h₀) (st : h₀.StaysIn s.heap) (TT : TrieAt w s.heap t D ps Ev) (fresh : ∀ p ∈ D.objs w t, h₀.get? p.1 = none)
    (ha : s.heap.get? a = some (tupOf vs.toArray ea)) (hi : IntsAre vs gs) (hoff : a ∉ (D.objs w t).map (·.1)) (hsz : ps.length + gs.length ≤ 1000)
    (h : ∀ D' ps' h' tk', TrieAt w h' t D' ps' (fun x => if x = gs then some l else Ev x) → (∀ x, x ∈ ps' ↔ x ∈ ps ∨ ∃ j ≤ gs.length, x = gs.take j) → ps'.length ≤ ps.length + gs.length →
      (∀ p ∈ D'.objs w t, p.1 ∈ (D.objs w t).map (·.1) ∨ s.heap.get? p.1 = none) → (∀ b o, b ∉ (D.objs w t).map (·.1) → s.heap.get? b = some o → h'.get? b = some o) → Q .none { s with heap := h', toks := tk' }) :
    wpAny (model PySem.Challenge.rw_pb0154_01.row.prog w) A (call (.ref 42) [.ref t, .ref a, .int l tl]) Q E s := by
  have _fill : (PySem.Challenge.rw_pb0154_01 = PySem.Challenge.rw_pb0154_01 ∧ hd.heap_39 = hd.heap_39) := by (k_fill; exact ⟨rfl, rfl⟩)
  refine wpAny_call ?_
  refine' enter (fp := D.objs w t) (binds := [("self", .ref t), ("glyphs", .ref a), ("ligature", .int l tl)]) ok.room G st ?hN ?ho ?hcd ?hbind ?hloc ?_ ?hcell ?hco ?hgen ?hk
  case hN => exact fun p hp => ⟨TT.1 p hp, fresh p hp⟩
  walk_at "ENTER"
  intro g L h₁ G' st' hb F N
  have X := G'.X
  obtain ⟨mean, mg, mb, T⟩ := G'.T
  have hga : g.get? a = some (tupOf vs.toArray ea) := hb _ _ ha hoff
  walk_at "FOLD"
  walk_at "M"
  rename_i tk0 h2 F2 N2
  refine wpAny_For ?_
  walk_at "M"
  refine iter_tuple (g := g) (vs := vs) (e := ea) ok.hh (F2.keep _ _ hga) F2 N2
    (fun i m news => ∀ GG : Prop, (∀ D' ps' n tk u, news = D'.objs w t → TrieOk w t D' ps' Ev → ps'[n]? = some (gs.take i) → m = (fun y => if y = Str.ofString "node" then some (.int (n : Nat) tk) else if y = Str.ofString "glyph" then u else List.lookup y [(Str.ofString "self", Value.ref t), (Str.ofString "glyphs", Value.ref a), (Str.ofString "ligature", Value.int l tl)].reverse) → ((∀ x, x ∈ ps' ↔ x ∈ ps ∨ ∃ j ≤ i, x = gs.take j)) → ps'.length ≤ ps.length + i → ((∀ p ∈ D'.objs w t, p.1 ∈ (D.objs w t).map (·.1) ∨ s.heap.get? p.1 = none)) → GG) → GG) ?_ ?_ ?_
  · refine (fun GG kk => kk D ps 0 tk0 none rfl TT.2 (by simpa using TT.2.root) ?_ ?_ (by omega) (fun p hp => .inl (List.mem_map_of_mem hp)))
    · funext y
      by_cases e1 : y = Str.ofString "node"
      · rw [if_pos e1, if_pos e1]; rfl
      · rw [if_neg e1, if_neg e1]
        by_cases e2 : y = Str.ofString "glyph"
        · rw [if_pos e2, e2]; rfl
        · rw [if_neg e2]
    · intro x
      refine ⟨.inl, fun hx => hx.elim id fun ⟨j, hj, e⟩ => ?_⟩
      rw [e, Nat.le_zero.mp hj]
      exact List.mem_of_getElem? (by simpa using TT.2.root)
  · intro I i v m₁ news₁ h3 tk3 oI hv hJ hIn hnI hax F3 N3
    refine hJ _ ?_
    clear hJ
    rintro D' ps' n tkn u rfl T' hn rfl hps hlen hnew
    obtain ⟨k, tkk, rfl, hgk⟩ := ints_get hi hv
    refine assign_name (by rfl) (by rfl) F3 N3 fun h4 F4 N4 hs4 => ?_
    clear F3 N3 F2 N2
    have hnd : D'.nd.length = ps'.length := T'.len
    have hn' : n < D'.nd.length := by rw [hnd]; exact (List.getElem?_eq_some_iff.mp hn).1
    obtain ⟨⟨d, o⟩, hp⟩ : ∃ p, D'.nd[n]? = some p := ⟨_, List.getElem?_eq_getElem hn'⟩
    obtain ⟨kvs, hd1, hd2, hd3⟩ := T'.kids n _ _ hp hn
    have big := T'.small
    have hlow := T'.low _ (List.mem_of_getElem? hp)
    have hx : D'.refs[((n : Int)).toNat]? = some (.ref d) := by simp [TD.refs, hp]
    have N5 : News g L h4 ((t, instObj 59 D'.dt) :: (D'.dt, dictOf [{ hash := PyData.keyHash w.params (Str.ofString "steps"), key := Value.str (Str.ofString "steps") D'.a, val := Value.ref D'.ls },
       { hash := PyData.keyHash w.params (Str.ofString "ends"), key := Value.str (Str.ofString "ends") D'.b, val := Value.ref D'.le }] 2) :: (D'.ls, listOf D'.refs.toArray D'.n2) :: (D'.le, listOf D'.vs.toArray D'.n3) :: (D'.nd ++ [(I, oI)])) := N4
    clear N4
    walk_at "FOLD"
    walk_at "M"
    refine my_item (isList_of (N5 (D'.ls, listOf D'.refs.toArray D'.n2) (by walk_at "IN")).1) (by omega) (by omega) hx ?_
    have hD : h4.DictOf (PySem.intKind PR w) d kvs := Heap.dictOf_iff.mpr ⟨o, (N5 (d, o) (by simp [List.mem_of_getElem? hp])).1, hd1⟩
    refine wpAny_notIn_of (knd := PySem.intKind PR w) (intKind_is _ _ _ _) hlow hD.mapOf ?_
    rcases hd2 k with ⟨hv1, hno⟩ | ⟨j, tj, hv1, hj⟩
    · rw [hv1]
      dsimp only [Option.isSome_none, Bool.not_false]
      walk_at "M"
      have es : D'.refs.toArray.size = ps'.length := by simp [TD.refs, hnd]
      refine call_len_list (isList_of (N5 (D'.ls, listOf D'.refs.toArray D'.n2) (by walk_at "IN")).1) (by rw [es]; omega) ?_
      rw [es]
      walk_at "M"
      refine my_item (isList_of (N5 (D'.ls, listOf D'.refs.toArray D'.n2) (by walk_at "IN")).1) (by omega) (by omega) hx ?_
      walk_at "M"
      refine wpAny_setItem_pairs (knd := PySem.intKind PR w) (intKind_is _ _ _ _) hD (fun h5 hd5 hs5 => ?_) (by rw [sizeLine_eq]; omega)
      obtain ⟨o', ho', hd'⟩ := Heap.dictOf_iff.mp hd5
      have nodL : (List.map (·.1) ((t, instObj 59 D'.dt) :: (D'.dt, dictOf [{ hash := PyData.keyHash w.params (Str.ofString "steps"), key := Value.str (Str.ofString "steps") D'.a, val := Value.ref D'.ls },
       { hash := PyData.keyHash w.params (Str.ofString "ends"), key := Value.str (Str.ofString "ends") D'.b, val := Value.ref D'.le }] 2) :: (D'.ls, listOf D'.refs.toArray D'.n2) :: (D'.le, listOf D'.vs.toArray D'.n3) :: (D'.nd ++ [(I, oI)]))).Nodup := nod_snoc (l := D'.objs w t) T'.addrs hnI
      have F6 := fr_put F4 N5 (o := o) (d := d) (by simp [List.mem_of_getElem? hp]) hs5
      have N6 := news_put (i := n + 4) (o := o) N5 nodL (by simp [List.getElem?_append_left hn', hp]) hs5 ho'
      simp only [List.set_cons_succ, List.set_append_left _ _ hn'] at N6
      clear F4 N5
      walk_at "M"
      rename_i dN h6 oN F7 N7 lo hs hf hdN hfi l1
      have l1' : ∀ p ∈ D'.objs w t ++ [(I, oI)], p.1 < dN := by
        intro x hxm
        have l2 : ∀ p ∈ D'.nd ++ [(I, oI)], p.1 < dN := by
          intro x hxm
          have hm : x.1 ∈ (D'.nd.set n (d, o') ++ [(I, oI)]).map (·.1) := by rw [List.map_append, mapset hp, ← List.map_append]; exact List.mem_map_of_mem hxm
          obtain ⟨q, hq, e⟩ := List.mem_map.mp hm
          rw [← e]; exact allLt_mem l1.2.2.2.2 q hq
        rcases List.mem_append.mp hxm with hxm | hxm
        · simp only [TD.objs, List.mem_cons] at hxm
          rcases hxm with rfl | rfl | rfl | rfl | hxm
          · exact l1.1
          · exact l1.2.1
          · exact l1.2.2.1
          · exact l1.2.2.2.1
          · exact l2 x (List.mem_append_left _ hxm)
        · exact l2 x (List.mem_append_right _ hxm)
      have dNnot : dN ∉ (D'.objs w t ++ [(I, oI)]).map (·.1) := fun hm => by
        obtain ⟨q, hq, e⟩ := List.mem_map.mp hm
        exact absurd (l1' q hq) (by rw [e]; exact Nat.lt_irrefl _)
      have nod7 : (((dN, oN) :: (D'.objs w t ++ [(I, oI)])).map (·.1)).Nodup := by
        rw [List.map_cons, List.nodup_cons]; exact ⟨dNnot, nodL⟩
      have em : ∀ (x : Array Value) (a : Nat) (y : Array Value) (b : Nat), ((dN, oN) :: (t, instObj 59 D'.dt) :: (D'.dt, dictOf [{ hash := PyData.keyHash w.params (Str.ofString "steps"), key := Value.str (Str.ofString "steps") D'.a, val := Value.ref D'.ls },
       { hash := PyData.keyHash w.params (Str.ofString "ends"), key := Value.str (Str.ofString "ends") D'.b, val := Value.ref D'.le }] 2) :: (D'.ls, listOf x a) :: (D'.le, listOf y b) :: (D'.nd.set n (d, o') ++ [(I, oI)])).map (·.1) = ((dN, oN) :: (D'.objs w t ++ [(I, oI)])).map (·.1) := by
        intro x a y b
        simp only [TD.objs, List.cons_append, List.map_cons, List.map_append, mapset hp]
      refine append_at (N7 (D'.ls, listOf D'.refs.toArray D'.n2) (by walk_at "IN")).1 (fun h8 hs8 hl8 => ?_) (by rw [es, sizeLine_eq]; omega)
      have F8 := fr_put F7 N7 (o := listOf D'.refs.toArray D'.n2) (d := D'.ls) (by walk_at "IN") hs8
      have N8 := news_put (i := 3) (o := listOf D'.refs.toArray D'.n2) N7 (by rw [em]; exact nod7) (by simp) hs8 hl8
      simp only [List.set_cons_succ, List.set_cons_zero] at N8
      clear F7 N7
      walk_at "M"
      refine append_at (N8 (D'.le, listOf D'.vs.toArray D'.n3) (by walk_at "IN")).1 (fun h9 hs9 hl9 => ?_) (by simp only [List.size_toArray, T'.lenv, sizeLine_eq]; omega)
      have F9 := fr_put F8 N8 (o := listOf D'.vs.toArray D'.n3) (d := D'.le) (by walk_at "IN") hs9
      have N9 := news_put (i := 4) (o := listOf D'.vs.toArray D'.n3) N8 (by rw [em]; exact nod7) (by simp) hs9 hl9
      simp only [List.set_cons_succ, List.set_cons_zero, List.push_toArray] at N9
      clear F8 N8
      walk_at "M"
      refine my_item (vs := D'.refs ++ [Value.ref dN]) (isList_of (N9 (D'.ls, listOf (D'.refs ++ [Value.ref dN]).toArray (D'.n2 + 1)) (by walk_at "IN")).1) (by omega) (by omega) (by rw [List.getElem?_append_left (by simp [TD.refs, hn'])]; exact hx) ?_
      walk_at "M"
      have hD9 : h9.DictOf (PySem.intKind PR w) d _ := Heap.dictOf_iff.mpr ⟨o', (N9 (d, o') (by simp [List.mem_or_eq_of_mem_set, List.mem_set, hn'])).1, hd'⟩
      refine dict_item hD9 (by rw [stored_absent hv1, valueAt_append _ _ _ _ hv1, if_pos rfl]) ?_
      walk_at "M"
      rename_i h10 F10 N10
      have T3 := T'.grow (tv := 197) hn hp hno (hd2 := by assumption) hd3 hv1 hd' hdN (fun hm => dNnot (by rw [List.map_append]; exact List.mem_append_left _ hm)) lo (by have := (List.getElem?_eq_some_iff.mp hgk).1; omega) (D'.n2 + 1) (D'.n3 + 1)
      have mem3 : ∀ x ∈ TD.objs w t { D' with nd := D'.nd.set n (d, o') ++ [(dN, oN)], vs := D'.vs ++ [.int (-1) 197], n2 := D'.n2 + 1, n3 := D'.n3 + 1 }, x.1 = dN ∨ x.1 ∈ (D'.objs w t).map (·.1) := by
        intro x hx9
        have hm : x.1 ∈ (TD.objs w t { D' with nd := D'.nd.set n (d, o') ++ [(dN, oN)], vs := D'.vs ++ [.int (-1) 197], n2 := D'.n2 + 1, n3 := D'.n3 + 1 }).map (·.1) := List.mem_map_of_mem hx9
        simp only [TD.objs, List.map_cons, List.map_append, mapset hp, List.map_nil, List.mem_cons, List.mem_append, List.not_mem_nil, or_false] at hm ⊢
        rcases hm with e | e | e | e | e | e <;> simp [e]
      refine (show TurnEnd _ _ _ _ _ _ _ _ from mkTurn F10 (?_ : News g _ h10 (TD.objs w t { D' with nd := D'.nd.set n (d, o') ++ [(dN, oN)], vs := D'.vs ++ [.int (-1) 197], n2 := D'.n2 + 1, n3 := D'.n3 + 1 } ++ [(I, oI)])) ?_ ?_ (fun GG kk => kk _ _ ps'.length _ _ rfl T3 ?_ (m_shape _ _ _ _ _ _ _) (paths_next hgk hps) ?_ ?_))
      · intro x hx9
        refine N10 x ?_
        simp only [TD.objs, TD.refs, List.map_append, refset hp, List.map_cons, List.map_nil, List.cons_append, List.mem_cons, List.mem_append, List.not_mem_nil, or_false] at hx9
        rcases hx9 with e | e | e | e | (e | e) | e <;> first | (rw [e]; walk_at "IN") | walk_at "IN" | simp [e]
      · intro x hx9
        rcases mem3 x hx9 with e | e
        · rw [e]; exact Nat.ne_of_gt (l1' _ (List.mem_append_right _ (List.mem_singleton.mpr rfl)))
        · obtain ⟨y, hy, e'⟩ := List.mem_map.mp e
          rw [← e']; exact hnI y hy
      · intro x hx9
        rw [List.mem_singleton.mp hx9]; exact F10.keep _ _ hga
      · rw [take_snoc hgk]; simp
      · simp only [List.length_append, List.length_cons, List.length_nil]; omega
      · intro x hx9
        rcases mem3 x hx9 with e | e
        · rw [e]
          by_cases hin : dN ∈ (D.objs w t).map (·.1)
          · exact .inl hin
          · refine .inr ?_
            cases q9 : s.heap.get? dN with
            | none => rfl
            | some o9 =>
              have := hb _ _ q9 hin
              rw [(N10 (dN, oN) (by walk_at "IN")).2.2] at this; cases this
        · obtain ⟨y, hy, e'⟩ := List.mem_map.mp e
          rw [← e']; exact hnew y hy
    · rw [hv1]
      dsimp only [Option.isSome_some, Bool.not_true]
      walk_at "M"
      refine my_item (isList_of (N5 (D'.ls, listOf D'.refs.toArray D'.n2) (by walk_at "IN")).1) (by omega) (by omega) hx ?_
      walk_at "M"
      refine dict_item hD hv1 ?_
      walk_at "M"
      rename_i h10 F10 N10
      exact (show TurnEnd _ _ _ _ _ _ _ _ from mkTurn (news' := D'.objs w t) F10 N10 hnI (fun x hx9 => by rw [List.mem_singleton.mp hx9]; exact F10.keep _ _ hga) (fun GG kk => kk D' ps' j _ _ rfl T' (by rw [take_snoc hgk]; exact hj) (m_shape _ _ _ _ _ _ _) (paths_same hgk (List.mem_of_getElem? hj) hps) (by omega) hnew))
  · intro h3 tk3 m3 news3 hJ F3 N3 hax
    refine hJ _ ?_
    clear hJ
    rintro D' ps' n tkn u rfl T' hn rfl hps hlen hnew
    rw [hi.length, List.take_length] at hn
    rw [hi.length] at hps hlen
    have hn' : n < D'.vs.length := by rw [T'.lenv]; exact (List.getElem?_eq_some_iff.mp hn).1
    have big := T'.small
    have hlen2 := T'.lenv
    have N5 : News g L h3 ((t, instObj 59 D'.dt) :: (D'.dt, dictOf [{ hash := PyData.keyHash w.params (Str.ofString "steps"), key := Value.str (Str.ofString "steps") D'.a, val := Value.ref D'.ls },
       { hash := PyData.keyHash w.params (Str.ofString "ends"), key := Value.str (Str.ofString "ends") D'.b, val := Value.ref D'.le }] 2) :: (D'.ls, listOf D'.refs.toArray D'.n2) :: (D'.le, listOf D'.vs.toArray D'.n3) :: D'.nd) := N3
    walk_at "FOLD"
    walk_at "M"
    refine list_set (N5 (D'.le, listOf D'.vs.toArray D'.n3) (by walk_at "IN")).1 hn' (by omega) (fun h4 hs4 hl4 => ?_)
    have F6 := fr_put F3 N5 (o := listOf D'.vs.toArray D'.n3) (d := D'.le) (by walk_at "IN") hs4
    have N6 := news_put (i := 3) (o := listOf D'.vs.toArray D'.n3) N5 T'.addrs (by simp) hs4 hl4
    simp only [List.set_cons_succ, List.set_cons_zero] at N6
    clear F3 N3 N5
    walk_at "M"
    refine h { D' with vs := D'.vs.set n (.int l tl) } ps' h4 _ ⟨fun p hp => (N6 p hp).1, T'.setEnd hn⟩ hps hlen (fun p hp => ?_) (fun b o hb9 e => F6.keep b o (hb b o e hb9))
    have hm : p.1 ∈ (D'.objs w t).map (·.1) := List.mem_map_of_mem (f := (·.1)) hp
    obtain ⟨y, hy, e'⟩ := List.mem_map.mp hm
    rw [← e']; exact hnew y hy
end Mine

open PySem PySem.W PySem.Calls PyProof.Rows
set_option Elab.async false
set_option maxRecDepth 100000
namespace Mine
theorem freshLawTrie : True := by w_top off; trivial
local macro_rules | `(tactic| walk_at "STOP") => `(tactic| ((fail_if_success (with_reducible show wpAny _ _ (exec (Stmt.For _ _ _ _ _) _) _ _ _)); (fail_if_success (with_reducible show wpAny _ _ (exec (Stmt.While _ _ _ _) _) _ _ _)); (fail_if_success (with_reducible show wpAny _ _ (PySem.call (Value.ref _) _ _) _ _ _)); (fail_if_success (with_reducible show wpAny _ _ (eval (Expr.ListComp _ _ _ _) _) _ _ _))))
local macro_rules | `(tactic| walk_at "M") => `(tactic| repeat' (first | (k_unfold; (try dsimp only)) | (with_reducible refine wpAny_execs_nil ?_; try dsimp only) | (walk_at "STOP"; walk1 <;> (try dsimp only))))
local macro_rules | `(tactic| walk_at "ENTER") => `(tactic| ((case ho => k_is); (case hcd => k_is); (case hbind => exact BindsTo.of_eq rfl); (case hloc => exact locs rfl); (case hcell => decide); (case hco => rfl); (case hgen => rfl); (case hk => rfl)))
local macro_rules | `(tactic| walk_at "FOLD") => `(tactic| ((try dsimp only); (try (show wpAny _ _ _ _ _ _)); (try k_fold)))

set_option maxHeartbeats 4000000 in
theorem law_trie_spec {w : World} {A : Around} {s : Shared} {h₀ : Heap} {wl : Addr} {ew : Nat} {items : List Value} {W : List (List Int × Int)} {Q : Value → Shared → Prop} {E : Value → Shared → Prop}
    (ok : Ok 7 A) (G : Gc w h₀) (st : h₀.StaysIn s.heap) (hwl : s.heap.get? wl = some (listOf items.toArray ew)) (hW : WordsIn (AtHeap s.heap) items W) (hn : W.length ≤ 6) (h4 : ∀ p ∈ W, p.1.length ≤ 4)
    (h : ∀ t D ps h' tk', TrieAt w h' t D ps (EvOf W) → (∀ x, x ∈ ps ↔ x = [] ∨ ∃ p ∈ W, ∃ j ≤ p.1.length, x = p.1.take j) → (∀ p ∈ D.objs w t, s.heap.get? p.1 = none) → s.heap.StaysIn h' → Q (.ref t) { s with heap := h', toks := tk' }) :
    wpAny (model PySem.Challenge.rw_pb0154_01.row.prog w) A (call (.ref 138) [.ref wl]) Q E s := by
  have _fill : (PySem.Challenge.rw_pb0154_01 = PySem.Challenge.rw_pb0154_01 ∧ hd.heap_39 = hd.heap_39) := by (k_fill; exact ⟨rfl, rfl⟩)
  refine wpAny_call ?_
  refine' enter (fp := []) (binds := [("words", .ref wl)]) ok.room G st ?hN ?ho ?hcd ?hbind ?hloc ?_ ?hcell ?hco ?hgen ?hk
  case hN => exact fun p hp => nomatch hp
  walk_at "ENTER"
  intro g L h₁ G' st' hb F N
  have X := G'.X
  obtain ⟨mean, mg, mb, T⟩ := G'.T
  have sg : s.heap.StaysIn g := fun b o e => hb b o e (fun hm => nomatch hm)
  have hgw := sg _ _ hwl
  have hWg := hW.mono (H' := AtHeap g) sg
  walk_at "FOLD"
  walk_at "M"
  refine trie_new (h₀ := g) ((Ok.deeper ok).mono (by decide)) G' F.keep (fun t D h2 tk2 TT hfr k2 => ?_)
  have F2 := Fr.keeps F k2
  have N2 : News g L h2 (D.objs w t) := news_new F (fun p hp => ⟨TT.1 p hp, hfr p hp⟩)
  have hnew0 : ∀ p ∈ D.objs w t, s.heap.get? p.1 = none := fun p hp => none_of_stays sg (fr_new F (hfr p hp)).2
  clear F N
  walk_at "M"
  rename_i h3 F3 N3
  refine wpAny_For ?_
  walk_at "M"
  refine iter_list (g := g) (vs := items) (e := ew) ok.hh (F3.keep _ _ hgw) F3 N3
    (fun i m news => ∀ GG : Prop, (∀ D' ps' u1 u2, news = D'.objs w t → TrieOk w t D' ps' (EvOf (W.take i)) → m = (fun z => if z = Str.ofString "ligature" then u2 else if z = Str.ofString "word" then u1 else if z = Str.ofString "trie" then some (.ref t) else List.lookup z [(Str.ofString "words", Value.ref wl)].reverse) → ((∀ x, x ∈ ps' ↔ x = [] ∨ ∃ p ∈ W.take i, ∃ j ≤ p.1.length, x = p.1.take j)) → ps'.length ≤ 1 + 4 * i → (∀ p ∈ D'.objs w t, s.heap.get? p.1 = none) → GG) → GG) ?_ ?_ ?_
  · refine (fun GG kk => kk D [[]] none none rfl TT.2 ?_ (by simp) (by simp) hnew0)
    funext z
    by_cases e1 : z = Str.ofString "ligature"
    · subst e1; rfl
    · by_cases e2 : z = Str.ofString "word"
      · subst e2; rfl
      · rw [if_neg e1, if_neg e2]
  · intro I i v m₁ news₁ h5 tk5 oI hv hJ hIn hnI hax F5 N5
    refine hJ _ ?_
    clear hJ
    rintro D' ps' u1 u2 rfl T' rfl hps hlen hnew
    obtain ⟨x, hx, p, wa, vs, tkl, n1, n2, rfl, hp, hwa, hi⟩ := hWg.word i v hv
    have hi6 : i < 6 := by have := (List.getElem?_eq_some_iff.mp hx).1; omega
    have hx4 := h4 x (List.mem_of_getElem? hx)
    refine assign_pair ok.hh (F5.keep _ _ hp) (by rfl) (by rfl) (by rfl) F5 N5 (fun h6 tk6 F6 N6 k6 => ?_)
    clear F5 N5 F3 N3
    have TT' : TrieAt w h6 t D' ps' (EvOf (W.take i)) := ⟨fun p hp => (N6 p (List.mem_append_left _ hp)).1, T'⟩
    have N7 : News g L h6 ((t, instObj 59 D'.dt) :: (D'.dt, dictOf [{ hash := PyData.keyHash w.params (Str.ofString "steps"), key := Value.str (Str.ofString "steps") D'.a, val := Value.ref D'.ls },
       { hash := PyData.keyHash w.params (Str.ofString "ends"), key := Value.str (Str.ofString "ends") D'.b, val := Value.ref D'.le }] 2) :: (D'.ls, listOf D'.refs.toArray D'.n2) :: (D'.le, listOf D'.vs.toArray D'.n3) :: (D'.nd ++ [(I, oI)])) := N6
    walk_at "FOLD"
    walk_at "M"
    have hoff : wa ∉ (D'.objs w t).map (·.1) := fun hm => by
      obtain ⟨q, hq, e⟩ := List.mem_map.mp hm
      have := (N6 q (List.mem_append_left _ hq)).2.2
      rw [e, hwa] at this; cases this
    refine add_spec (h₀ := g) (gs := x.1) (vs := vs) (ea := n2) ((Ok.deeper ok).mono (by decide)) G' F6.keep TT' (fun p hp => (N6 p (List.mem_append_left _ hp)).2.2) (F6.keep _ _ hwa) hi hoff (by omega) (fun D3 ps3 h7 tk7 T3 hps3 hlen3 hnew3 k7 => ?_)
    have F7 := fr_call F6 (news_sub N6 (l' := D'.objs w t) fun p hp => List.mem_append_left _ hp) k7
    have hI7 : (I, oI) ∈ D'.objs w t ++ [(I, oI)] := List.mem_append_right _ (List.mem_singleton.mpr rfl)
    have hIoff : I ∉ (D'.objs w t).map (·.1) := fun hm => by
      obtain ⟨q, hq, e⟩ := List.mem_map.mp hm
      exact hnI q hq e
    have hD3 : ∀ p ∈ D3.objs w t, p.1 ≠ L ∧ g.get? p.1 = none ∧ p.1 ≠ I ∧ s.heap.get? p.1 = none := by
      intro p hp
      rcases hnew3 p hp with e | e
      · obtain ⟨q, hq, e'⟩ := List.mem_map.mp e
        rw [← e']
        have a := N6 q (List.mem_append_left _ hq)
        exact ⟨a.2.1, a.2.2, hnI q hq, hnew q hq⟩
      · obtain ⟨e1, e2⟩ := fr_new F6 e
        exact ⟨e1, e2, (fun q => by rw [q] at e; have := (N6 _ hI7).1; dsimp only at e this; rw [this] at e; cases e), none_of_stays sg e2⟩
    have N8 : News g L h7 (D3.objs w t ++ [(I, oI)]) := by
      intro p hp
      rcases List.mem_append.mp hp with hp | hp
      · exact ⟨T3.1 p hp, (hD3 p hp).1, (hD3 p hp).2.1⟩
      · rw [List.mem_singleton.mp hp]
        exact ⟨k7 _ _ hIoff (N6 _ hI7).1, (N6 _ hI7).2⟩
    clear F6 N6 N7
    walk_at "M"
    have eEv : EvOf (W.take (i + 1)) = fun y => if y = x.1 then some x.2 else EvOf (W.take i) y := by
      rw [List.take_add_one, hx]; exact EvOf_snoc _ _
    refine (show TurnEnd _ _ _ _ _ _ _ _ from mkTurn (news' := D3.objs w t) F7 N8 (fun p hp => (hD3 p hp).2.2.1) (fun q hq => by rw [List.mem_singleton.mp hq]; exact F7.keep _ _ hgw) (fun GG kk => kk D3 ps3 _ _ rfl (by rw [eEv]; exact T3.2) (m_shape _ _ _ _ _ _ _) ?_ (by omega) (fun p hp => (hD3 p hp).2.2.2)))
    intro y
    rw [hps3, hps, List.take_add_one, hx]
    constructor
    · rintro ((e | ⟨q, hq, j, hj, e⟩) | ⟨j, hj, e⟩)
      · exact .inl e
      · exact .inr ⟨q, List.mem_append_left _ hq, j, hj, e⟩
      · exact .inr ⟨x, List.mem_append_right _ (by simp), j, hj, e⟩
    · rintro (e | ⟨q, hq, j, hj, e⟩)
      · exact .inl (.inl e)
      · rcases List.mem_append.mp hq with hq | hq
        · exact .inl (.inr ⟨q, hq, j, hj, e⟩)
        · rw [show q = x from by simpa using hq] at hj e
          exact .inr ⟨j, hj, e⟩
  · intro h5 tk5 m5 news5 hJ F5 N5 hax
    refine hJ _ ?_
    clear hJ
    rintro D' ps' u1 u2 rfl T' rfl hps hlen hnew
    rw [hW.len, List.take_length] at T' hps
    walk_at "FOLD"
    walk_at "M"
    exact h t D' ps' h5 _ ⟨fun p hp => (N5 p hp).1, T'⟩ hps hnew fun b o e => F5.keep b o (sg b o e)
end Mine

open PySem PySem.W PySem.Calls PyProof.Rows
set_option Elab.async false
namespace Mine
theorem freshLongP : True := by w_top off; trivial
/-- what longest finds: the longest begin of gs that ends in a ligature -/
def Longest (Ev : List Int → Option Int) (gs : List Int) (n : Nat) (l : Int) : Prop :=
  (n = 0 ∧ l = -1 ∧ ∀ k, 1 ≤ k → k ≤ gs.length → Ev (gs.take k) = none) ∨ (1 ≤ n ∧ n ≤ gs.length ∧ Ev (gs.take n) = some l ∧ ∀ k, n < k → k ≤ gs.length → Ev (gs.take k) = none)

theorem take_take_le {gs : List Int} {i k : Nat} (h : k ≤ i) : (gs.take i).take k = gs.take k := by rw [List.take_take, Nat.min_eq_left h]

theorem longest_none {Ev : List Int → Option Int} {gs : List Int} {i n : Nat} {l k : Int} (h : Longest Ev (gs.take i) n l) (hk : gs[i]? = some k) (he : Ev (gs.take i ++ [k]) = none) : Longest Ev (gs.take (i + 1)) n l := by
  have hlt := (List.getElem?_eq_some_iff.mp hk).1
  have l1 : (gs.take i).length = i := by rw [List.length_take]; omega
  have l2 : (gs.take (i + 1)).length = i + 1 := by rw [List.length_take]; omega
  rw [← take_snoc hk] at he
  unfold Longest at h ⊢
  rw [l1] at h
  rw [l2]
  rcases h with ⟨e1, e2, h⟩ | ⟨e1, e2, e3, h⟩
  · refine .inl ⟨e1, e2, fun m h1 h2 => ?_⟩
    rw [take_take_le h2]
    rcases Nat.lt_or_ge m (i + 1) with h3 | h3
    · have := h m h1 (by omega)
      rwa [take_take_le (by omega)] at this
    · rw [show m = i + 1 by omega]; exact he
  · rw [take_take_le e2] at e3
    refine .inr ⟨e1, by omega, by rw [take_take_le (by omega)]; exact e3, fun m h1 h2 => ?_⟩
    rw [take_take_le h2]
    rcases Nat.lt_or_ge m (i + 1) with h3 | h3
    · have := h m h1 (by omega)
      rwa [take_take_le (by omega)] at this
    · rw [show m = i + 1 by omega]; exact he

theorem longest_some {Ev : List Int → Option Int} {gs : List Int} {i : Nat} {e k : Int} (hk : gs[i]? = some k) (he : Ev (gs.take i ++ [k]) = some e) : Longest Ev (gs.take (i + 1)) (i + 1) e := by
  have hlt := (List.getElem?_eq_some_iff.mp hk).1
  have l2 : (gs.take (i + 1)).length = i + 1 := by rw [List.length_take]; omega
  rw [← take_snoc hk] at he
  refine .inr ⟨by omega, by omega, by rw [take_take_le (Nat.le_refl _)]; exact he, fun m h1 h2 => ?_⟩
  rw [l2] at h2; omega

theorem take_closed {ps : List (List Int)} {gs : List Int} (closed : ∀ q k, q ++ [k] ∈ ps → q ∈ ps) : ∀ (d a b : Nat), a + d = b → b ≤ gs.length → gs.take b ∈ ps → gs.take a ∈ ps
  | 0, a, b, h, _, m => by rw [show a = b by omega]; exact m
  | d + 1, a, b, h, hb, m => by
    refine take_closed closed d a (b - 1) (by omega) (by omega) ?_
    have hk : gs[b - 1]? = some gs[b - 1] := List.getElem?_eq_getElem (by omega)
    have := take_snoc hk
    rw [show b - 1 + 1 = b by omega] at this
    rw [this] at m
    exact closed _ _ m

theorem longest_stop {Ev : List Int → Option Int} {ps : List (List Int)} {gs : List Int} {i n : Nat} {l k : Int} (h : Longest Ev (gs.take i) n l) (hk : gs[i]? = some k) (hno : gs.take i ++ [k] ∉ ps)
    (closed : ∀ q k, q ++ [k] ∈ ps → q ∈ ps) (sub : ∀ q e, Ev q = some e → q ∈ ps) : Longest Ev gs n l := by
  have hlt := (List.getElem?_eq_some_iff.mp hk).1
  have l1 : (gs.take i).length = i := by rw [List.length_take]; omega
  rw [← take_snoc hk] at hno
  have far : ∀ m, i < m → m ≤ gs.length → Ev (gs.take m) = none := by
    intro m h1 h2
    cases he : Ev (gs.take m) with
    | none => rfl
    | some e => exact absurd (take_closed closed (m - (i + 1)) (i + 1) m (by omega) h2 (sub _ _ he)) hno
  unfold Longest at h ⊢
  rw [l1] at h
  rcases h with ⟨e1, e2, h⟩ | ⟨e1, e2, e3, h⟩
  · refine .inl ⟨e1, e2, fun m h1 h2 => ?_⟩
    rcases Nat.lt_or_ge i m with h3 | h3
    · exact far m h3 h2
    · have := h m h1 h3
      rwa [take_take_le h3] at this
  · rw [take_take_le e2] at e3
    refine .inr ⟨e1, by omega, e3, fun m h1 h2 => ?_⟩
    rcases Nat.lt_or_ge i m with h3 | h3
    · exact far m h3 h2
    · have := h m h1 h3
      rwa [take_take_le h3] at this

/-- a shape of locals: three names ahead of the rest -/
theorem m_shape3 {a b c : Str} (hab : a ≠ b) (hac : a ≠ c) (hbc : b ≠ c) (A B C B' C' : Option Value) (m : Str → Option Value) :
    (fun y => if y = b then B' else if y = c then C' else if y = a then A else if y = b then B else if y = c then C else m y) = fun y => if y = a then A else if y = b then B' else if y = c then C' else m y := by
  funext y
  by_cases h1 : y = a
  · subst h1; simp [hab, hac]
  · by_cases h2 : y = b
    · subst h2; simp [Ne.symm hab]
    · by_cases h3 : y = c
      · subst h3; simp [Ne.symm hac, Ne.symm hbc]
      · simp only [if_neg h1, if_neg h2, if_neg h3]
theorem m_shape3' {a b c : Str} (A B C A' B' C' : Option Value) (m : Str → Option Value) :
    (fun y => if y = a then A' else if y = b then B' else if y = c then C' else if y = a then A else if y = b then B else if y = c then C else m y) = fun y => if y = a then A' else if y = b then B' else if y = c then C' else m y := by
  funext y
  by_cases h1 : y = a
  · simp only [if_pos h1]
  · by_cases h2 : y = b
    · simp only [if_neg h1, if_pos h2]
    · by_cases h3 : y = c
      · simp only [if_neg h1, if_neg h2, if_pos h3]
      · simp only [if_neg h1, if_neg h2, if_neg h3]
end Mine

open PySem PySem.W PySem.Calls PyProof.Rows
set_option Elab.async false
set_option maxRecDepth 100000
namespace Mine
theorem freshLongest : True := by w_top off; trivial
local macro_rules | `(tactic| walk_at "STOP") => `(tactic| ((fail_if_success (with_reducible show wpAny _ _ (exec (Stmt.For _ _ _ _ _) _) _ _ _)); (fail_if_success (with_reducible show wpAny _ _ (exec (Stmt.While _ _ _ _) _) _ _ _)); (fail_if_success (with_reducible show wpAny _ _ (PySem.call (Value.ref _) _ _) _ _ _)); (fail_if_success (with_reducible show wpAny _ _ (eval (Expr.ListComp _ _ _ _) _) _ _ _))))
local macro_rules | `(tactic| walk_at "M") => `(tactic| repeat' (first | (k_unfold; (try dsimp only)) | (with_reducible refine wpAny_execs_nil ?_; try dsimp only) | (walk_at "STOP"; walk1 <;> (try dsimp only))))
local macro_rules | `(tactic| walk_at "ENTER") => `(tactic| ((case ho => k_is); (case hcd => k_is); (case hbind => exact BindsTo.of_eq rfl); (case hloc => exact locs rfl); (case hcell => decide); (case hco => rfl); (case hgen => rfl); (case hk => rfl)))
local macro_rules | `(tactic| walk_at "FOLD") => `(tactic| ((try dsimp only); (try (show wpAny _ _ _ _ _ _)); (try k_fold)))

set_option maxHeartbeats 4000000 in
theorem longest_spec {w : World} {A : Around} {s : Shared} {h₀ : Heap} {t l : Addr} {el : Nat} {D : TD} {ps : List (List Int)} {Ev : List Int → Option Int} {gs : List Int} {vs : List Value} {t0 : Tok} {Q : Value → Shared → Prop} {E : Value → Shared → Prop}
    (ok : Ok 5 A) (G : Gc w h₀) (st : h₀.StaysIn s.heap) (TT : TrieAt w s.heap t D ps Ev) (fresh : ∀ p ∈ D.objs w t, h₀.get? p.1 = none) (hne : ∀ q e, Ev q = some e → e ≠ -1)
    (hl : s.heap.get? l = some (listOf vs.toArray el)) (hi : IntsAre vs gs) (hoff : l ∉ (D.objs w t).map (·.1)) (hsz : gs.length ≤ 1000)
    (h : ∀ b n lig t1 t2 h' tk', Longest Ev gs n lig → s.heap.StaysIn h' → h'.get? b = some (tupOf #[.int (n : Nat) t1, .int lig t2] 0) → s.heap.get? b = none → Q (.ref b) { s with heap := h', toks := tk' }) :
    wpAny (model PySem.Challenge.rw_pb0154_01.row.prog w) A (call (.ref 70) [.ref t, .ref l, .int 0 t0]) Q E s := by
  have _fill : (PySem.Challenge.rw_pb0154_01 = PySem.Challenge.rw_pb0154_01 ∧ hd.heap_39 = hd.heap_39) := by (k_fill; exact ⟨rfl, rfl⟩)
  have hsub : ∀ p ∈ (D.objs w t).take 2, p ∈ D.objs w t := fun p hp => List.mem_of_mem_take hp
  have nod := TT.2.addrs
  refine wpAny_call ?_
  refine' enter (fp := (D.objs w t).take 2) (binds := [("trie", .ref t), ("glyphs", .ref l), ("at", .int 0 t0)]) ok.room G st ?hN ?ho ?hcd ?hbind ?hloc ?_ ?hcell ?hco ?hgen ?hk
  case hN => exact fun p hp => ⟨TT.1 p (hsub p hp), fresh p (hsub p hp)⟩
  walk_at "ENTER"
  intro g L h₁ G' st' hb F N
  have X := G'.X
  obtain ⟨mean, mg, mb, T⟩ := G'.T
  have off : ∀ x ∈ (D.objs w t).drop 2, g.get? x.1 = some x.2 := fun x hx => hb _ _ (TT.1 x (List.mem_of_mem_drop hx)) (drop_off nod 2 hx)
  have hgl : g.get? l = some (listOf vs.toArray el) := hb _ _ hl fun hm => hoff (by
    obtain ⟨p, hp, e⟩ := List.mem_map.mp hm
    rw [← e]; exact List.mem_map_of_mem (hsub p hp))
  have gl : g.IsList l vs.toArray := isList_of hgl
  simp only [TD.objs, List.take_succ_cons, List.take_zero] at N
  walk_at "FOLD"
  walk_at "M"
  refine wpAny_For ?_
  walk_at "M"
  rename IsRange _ _ _ _ _ _ _ _ => hR; rename Fr _ _ _ _ => F3; rename News _ _ _ _ => N3; rename (_ ∧ _) => hbt
  have snew : ∀ b, g.get? b = none → b ≠ t → b ≠ D.dt → s.heap.get? b = none := by
    intro b e n1 n2
    cases q : s.heap.get? b with
    | none => rfl
    | some o =>
      have := hb b o q (by simp [TD.objs, n1, n2])
      rw [e] at this; cases this
  have TTat : ∀ {L : Addr} {h' : Heap} {m : Str → Option Value} {l : List (Addr × Obj)}, Fr g L h' m → News g L h' l → (∀ p ∈ (D.objs w t).take 2, p ∈ l) → TrieAt w h' t D ps Ev := by
    intro L h' m l F N hm
    refine ⟨fun p hp => ?_, TT.2⟩
    rw [← List.take_append_drop 2 (D.objs w t)] at hp
    rcases List.mem_append.mp hp with hp | hp
    · exact (N p (hm p hp)).1
    · exact F.keep _ _ (off p hp)
  refine iter_range (n := gs.length) ok.hh hR (small_one (by omega) (by omega) (by omega) (by omega)) (by rw [rangeSize_nat]; omega) F3 N3
    (fun i m news => ∀ GG : Prop, (∀ (nI : Nat) (tkn : Tok) (b : Addr) (n : Nat) (lig : Int) (t1 t2 : Tok) (u : Option Value), news = (b, tupOf #[.int (n : Nat) t1, .int lig t2] 0) :: (D.objs w t).take 2 → ps[nI]? = some (gs.take i) → Longest Ev (gs.take i) n lig → m = (fun y => if y = Str.ofString "best" then some (.ref b) else if y = Str.ofString "node" then some (.int (nI : Nat) tkn) else if y = Str.ofString "spot" then u else List.lookup y [(Str.ofString "trie", Value.ref t), (Str.ofString "glyphs", Value.ref l), (Str.ofString "at", Value.int 0 t0)].reverse) → s.heap.get? b = none → GG) → GG) ?_ ?_ ?_
  · refine' fun GG kk => kk 0 _ _ 0 (-1) t0 197 none rfl (by simpa using TT.2.root) (.inl ⟨rfl, rfl, fun k h1 h2 => by simp at h2; omega⟩) ?_ (snew _ (N3 _ (List.Mem.head _)).2.2 (Nat.ne_of_gt hbt.1) (Nat.ne_of_gt hbt.2))
    rotate_left
    funext y
    by_cases e1 : y = Str.ofString "best"
    · subst e1; rfl
    · by_cases e2 : y = Str.ofString "node"
      · subst e2; rfl
      · by_cases e3 : y = Str.ofString "spot"
        · subst e3; rfl
        · simp only [if_neg e1, if_neg e2, if_neg e3]
  · intro I i ti m₁ news₁ h5 tk5 oI hlt hJ hIn hnI F5 N5
    refine hJ _ ?_
    clear hJ
    rintro nI tkn b n lig t1 t2 u rfl hnode hlong rfl hbn
    obtain ⟨k, hk⟩ : ∃ k, gs[i]? = some k := ⟨_, List.getElem?_eq_getElem hlt⟩
    refine assign_name (by rfl) (by rfl) F5 N5 fun h6 F6 N6 hs6 => ?_
    clear F5 N5 F3 N3
    have N7 : News g L h6 ((b, tupOf #[.int (n : Nat) t1, .int lig t2] 0) :: (t, instObj 59 D.dt) :: (D.dt, dictOf [{ hash := PyData.keyHash w.params (Str.ofString "steps"), key := Value.str (Str.ofString "steps") D.a, val := Value.ref D.ls },
       { hash := PyData.keyHash w.params (Str.ofString "ends"), key := Value.str (Str.ofString "ends") D.b, val := Value.ref D.le }] 2) :: [(I, oI)]) := N6
    walk_at "FOLD"
    walk_at "M"
    have ek : gs.getD (0 + (i : Int)).toNat 0 = k := by simp [List.getD, hk]
    rw [ek]
    have hT6 := TTat F6 N6 (fun p hp => List.mem_append_left _ (List.mem_cons_of_mem _ hp))
    refine step_spec (h₀ := h₀) ((Ok.deeper ok).mono (by decide)) G (fun b o e => F6.keep _ _ (st' _ _ e)) hT6 fresh hnode (fun v h8 tk8 hv k8 => ?_)
    have F8 := Fr.keeps F6 k8
    have N8 := News.grown N7 k8
    have F8s : ∀ p ∈ (D.objs w t).drop 2, ∀ {h' : Heap} {m : Str → Option Value}, Fr g L h' m → h'.get? p.1 = some p.2 := fun p hp _ _ F => F.keep _ _ (off p hp)
    clear F6 N6 N7
    rcases hv with ⟨j, tj, rfl, hj⟩ | ⟨hno, tj, rfl⟩
    · have hjn : ((j : Int)) ≠ -1 := by omega
      obtain ⟨te, hte⟩ := TT.2.ends j _ hj
      have hjlt : j < D.vs.length := (List.getElem?_eq_some_iff.mp hte).1
      have hvl := TT.2.lenv
      have hsm := TT.2.small
      walk_at "M"
      · exfalso; omega
      refine my_item (vs := D.vs) (isList_of (F8s (D.le, listOf D.vs.toArray D.n3) (by simp [TD.objs]) (by assumption))) (by omega) (by omega) (by simpa using hte) ?_
      cases hE : Ev (gs.take i ++ [k]) with
      | none =>
        dsimp only [Option.getD]
        walk_at "M"
        rename Fr _ _ _ _ => F9; rename News _ _ _ _ => N9
        exact (show TurnEnd _ _ _ _ _ _ _ _ from mkTurn (news' := (b, tupOf #[.int (n : Nat) t1, .int lig t2] 0) :: (D.objs w t).take 2) F9 N9 hnI (fun _ hq => nomatch hq) (fun GG kk => kk j tj b n lig t1 t2 _ rfl (by rw [take_snoc hk]; exact hj) (longest_none hlong hk hE) (m_shape3 (by decide) (by decide) (by decide) _ _ _ _ _ _) hbn))
      | some e =>
        have hee := hne _ _ hE
        dsimp only [Option.getD]
        walk_at "M"
        · refine my_item (vs := D.vs) (isList_of (F8s (D.le, listOf D.vs.toArray D.n3) (by simp [TD.objs]) (by assumption))) (by omega) (by omega) (by rw [hE] at hte; simpa using hte) ?_
          walk_at "M"
          rename_i D9 h9a l9 h9b F9 N9
          rw [show (0 + (i : Int) + 1) = ((i + 1 : Nat) : Int) by omega] at N9
          obtain ⟨te9, N10⟩ : ∃ te9, News g L h9b ((D9, tupOf #[.int ((i + 1 : Nat) : Int) te9, .int e te] 0) :: (D.objs w t).take 2 ++ [(I, oI)]) := ⟨_, news_sub N9 fun q hq => (by
            rcases List.mem_cons.mp hq with rfl | hq
            · exact List.Mem.head _
            · exact List.mem_cons_of_mem _ (List.mem_cons_of_mem _ hq))⟩
          refine (show TurnEnd _ _ _ _ _ _ _ _ from mkTurn (news' := _ :: (D.objs w t).take 2) F9 N10 ?_ (fun _ hq => nomatch hq) (fun GG kk => kk j tj D9 (i + 1) e _ _ _ rfl (by rw [take_snoc hk]; exact hj) (longest_some hk hE) (m_shape3' _ _ _ _ _ _ _) (snew _ (N10 _ (List.Mem.head _)).2.2 (Nat.ne_of_gt (by omega)) (Nat.ne_of_gt (by omega)))))
          intro q hq
          rcases List.mem_cons.mp hq with rfl | hq
          · exact Nat.ne_of_gt (by omega)
          · exact hnI q (List.mem_cons_of_mem _ hq)
        · exfalso; omega
    · walk_at "M"
      rename Fr _ _ _ _ => F9; rename News _ _ _ _ => N9
      dsimp only [TurnPost]
      walk_at "M"
      exact h b n lig t1 t2 _ _ (longest_stop hlong hk hno TT.2.closed TT.2.sub) (keep_of hb F9 (fun x hx => (N9 x (List.mem_cons_of_mem _ (List.mem_append_left [(I, oI)] (show x ∈ (D.objs w t).take 2 from hx)))).1) fun x hx => TT.1 x (hsub x hx)) (N9 _ (List.Mem.head _)).1 hbn
  · intro h5 tk5 m5 news5 hJ F5 N5
    refine hJ _ ?_
    clear hJ
    rintro nI tkn b n lig t1 t2 u rfl hnode hlong rfl hbn
    rw [List.take_length] at hlong
    have N6 : News g L h5 ((b, tupOf #[.int (n : Nat) t1, .int lig t2] 0) :: (D.objs w t).take 2) := N5
    walk_at "FOLD"
    walk_at "M"
    exact h b n lig t1 t2 _ _ hlong (keep_of hb F5 (fun x hx => (N5 x (List.mem_cons_of_mem _ hx)).1) fun x hx => TT.1 x (hsub x hx)) (N5 _ (List.Mem.head _)).1 hbn
end Mine

open PySem PySem.W PySem.Calls PyProof.Rows
set_option Elab.async false
namespace Mine
theorem freshFeedD : True := by w_top off; trivial
/-- where a feeder's parts lie -/
structure FD where
  dx : Addr
  hl : Addr
  a : Tok
  b : Tok
  e : Nat
  vs : List Value
def FD.objs (w : World) (f t : Addr) (X : FD) : List (Addr × Obj) :=
  [(f, instObj 115 X.dx), (X.dx, dictOf [{ hash := PyData.keyHash w.params (Str.ofString "trie"), key := Value.str (Str.ofString "trie") X.a, val := Value.ref t },
   { hash := PyData.keyHash w.params (Str.ofString "held"), key := Value.str (Str.ofString "held") X.b, val := Value.ref X.hl }] 2), (X.hl, listOf X.vs.toArray X.e)]
structure FeederAt (w : World) (h : Heap) (f t : Addr) (X : FD) (gs : List Int) : Prop where
  at_ : ∀ p ∈ X.objs w f t, h.get? p.1 = some p.2
  nums : IntsAre X.vs gs
theorem FeederAt.keeps {w : World} {h h' : Heap} {f t : Addr} {X : FD} {gs : List Int} (T : FeederAt w h f t X gs) (k : h.StaysIn h') : FeederAt w h' f t X gs := ⟨fun p hp => k _ _ (T.at_ p hp), T.nums⟩
/-- objects of unlike kinds lie apart -/
theorem apart_of {h : Heap} {a b : Addr} {o o' : Obj} (ha : h.get? a = some o) (hb : h.get? b = some o') (hne : o.cls ≠ o'.cls) : a ≠ b := fun e => by
  rw [e, hb] at ha
  exact hne (by rw [Option.some.inj ha])

/-- gs is a node with children -/
def OpenP (ps : List (List Int)) (gs : List Int) : Prop := gs ∈ ps ∧ ∃ k, gs ++ [k] ∈ ps
/-- what decide takes (how many) and tells -/
def DecideP (Ev : List Int → Option Int) (gs : List Int) (n : Nat) (l : Int) : Prop :=
  ∃ m lig, Longest Ev gs m lig ∧ ((lig = -1 ∧ n = 1 ∧ gs.head? = some l) ∨ (lig ≠ -1 ∧ n = m ∧ l = lig))
/-- decide by decide till nothing is held or Stop holds: what is told, what is held -/
inductive Drain (Stop : List Int → Prop) (Ev : List Int → Option Int) : List Int → List Int → List Int → Prop where
  | stop {gs : List Int} : gs = [] ∨ Stop gs → Drain Stop Ev gs [] gs
  | step {gs : List Int} {n : Nat} {l : Int} {out rest : List Int} : gs ≠ [] → ¬ Stop gs → DecideP Ev gs n l → Drain Stop Ev (gs.drop n) out rest → Drain Stop Ev gs (l :: out) rest

theorem kids_none {ps : List (List Int)} {q : List Int} {kvs : List (Int × Value)} (h : Kids ps q kvs) : (kvs.length = 0) ↔ ¬ ∃ k, q ++ [k] ∈ ps := by
  constructor
  · rintro e ⟨k, hk⟩
    have e' : kvs = [] := List.length_eq_zero_iff.mp e
    subst e'
    rcases h k with ⟨_, h2⟩ | ⟨j, t, h1, _⟩
    · exact h2 hk
    · simp [valueAt] at h1
  · intro hn
    cases kvs with
    | nil => rfl
    | cons kv r =>
      exfalso
      rcases h kv.1 with ⟨h1, _⟩ | ⟨j, t, _, h2⟩
      · simp [valueAt] at h1
      · exact hn ⟨_, List.mem_of_getElem? h2⟩
theorem fr_new' {g h : Heap} {L b : Addr} {m : Str → Option Value} (F : Fr g L h m) (e : h.get? b = none) : b ≠ L ∧ g.get? b = none := by
  refine ⟨fun q => ?_, none_of_stays (fun a o e => F.keep a o e) e⟩
  obtain ⟨o, _, _, ho, _⟩ := F.ns
  rw [q, ho] at e; cases e
theorem decide_pos {Ev : List Int → Option Int} {gs : List Int} {n : Nat} {l : Int} (h : DecideP Ev gs n l) : 1 ≤ n := by
  obtain ⟨m, lig, hl, h⟩ := h
  rcases h with ⟨_, e, _⟩ | ⟨hne, e, _⟩
  · omega
  · rcases hl with ⟨_, e2, _⟩ | ⟨e2, _⟩
    · exact absurd e2 hne
    · omega
theorem FeederAt.news {w : World} {g h h' : Heap} {L f t : Addr} {m : Str → Option Value} {X X' : FD} {gs : List Int} {l : List (Addr × Obj)} (F : Fr g L h m) (N : News g L h l) (hf : (f, instObj 115 X.dx) ∈ l) (hd : ∃ o, (X.dx, o) ∈ l) (FF : FeederAt w h' f t X' gs) (ed : X'.dx = X.dx)
    (hn : h.get? X'.hl = none) : News g L h' (X'.objs w f t) := by
  intro p hp
  refine ⟨FF.at_ p hp, ?_⟩
  simp only [FD.objs, List.mem_cons, List.not_mem_nil, or_false] at hp
  obtain ⟨o, hd⟩ := hd
  rcases hp with rfl | rfl | rfl
  · exact (N _ hf).2
  · dsimp only; rw [ed]; exact (N _ hd).2
  · exact fr_new' F hn
theorem bind_name {M : Model} {A : Around} {E : Value → Shared → Prop} {s : Shared} {env : Env} {g : Heap} {x : Str} {v : Value} {m : Str → Option Value} {news : List (Addr × Obj)} {Q : Unit → Shared → Prop}
    (hx : env.kindOf x = some .local) (hp : (env.scope.kind == .class || (env.scope.kind == .module && env.locals != env.globals)) = false) (F : Fr g env.locals s.heap m) (N : News g env.locals s.heap news)
    (h : ∀ h', Fr g env.locals h' (fun y => if y = x then some v else m y) → News g env.locals h' news → Q () { s with heap := h', toks := s.toks + 1 }) :
    wpAny M A (bindName env x v) Q E s :=
  wpAny_bind (wpAny_holding (wpAny_point (wpAny_bind (wpAny_storeName_local hx F.ns (fun h' hn hs => wpAny_point (h h' (F.set hn hs) (N.set hs))) hp))))
theorem ext_stays {h h' : Heap} (e : Heap.ExtBut h.objs.size h h') : h.StaysIn h' := fun b o q => e b o (Nat.ne_of_lt (Heap.lt_size q)) q
end Mine

open PySem PySem.W PySem.Calls PyProof.Rows
set_option Elab.async false
set_option maxRecDepth 100000
namespace Mine
theorem freshIsOpen : True := by w_top off; trivial
local macro_rules | `(tactic| walk_at "STOP") => `(tactic| ((fail_if_success (with_reducible show wpAny _ _ (exec (Stmt.For _ _ _ _ _) _) _ _ _)); (fail_if_success (with_reducible show wpAny _ _ (exec (Stmt.While _ _ _ _) _) _ _ _)); (fail_if_success (with_reducible show wpAny _ _ (PySem.call (Value.ref _) _ _) _ _ _)); (fail_if_success (with_reducible show wpAny _ _ (eval (Expr.ListComp _ _ _ _) _) _ _ _))))
local macro_rules | `(tactic| walk_at "M") => `(tactic| repeat' (first | (k_unfold; (try dsimp only)) | (with_reducible refine wpAny_execs_nil ?_; try dsimp only) | (walk_at "STOP"; walk1 <;> (try dsimp only))))
local macro_rules | `(tactic| walk_at "ENTER") => `(tactic| ((case ho => k_is); (case hcd => k_is); (case hbind => exact BindsTo.of_eq rfl); (case hloc => exact locs rfl); (case hcell => decide); (case hco => rfl); (case hgen => rfl); (case hk => rfl)))
local macro_rules | `(tactic| walk_at "FOLD") => `(tactic| ((try dsimp only); (try (show wpAny _ _ _ _ _ _)); (try k_fold)))

set_option maxHeartbeats 4000000 in
theorem is_open_spec {w : World} {A : Around} {s : Shared} {h₀ : Heap} {f t : Addr} {X : FD} {D : TD} {ps : List (List Int)} {Ev : List Int → Option Int} {gs : List Int} {Q : Value → Shared → Prop} {E : Value → Shared → Prop}
    (ok : Ok 5 A) (G : Gc w h₀) (st : h₀.StaysIn s.heap) (TT : TrieAt w s.heap t D ps Ev) (fresh : ∀ p ∈ D.objs w t, h₀.get? p.1 = none) (FF : FeederAt w s.heap f t X gs) (freshF : ∀ p ∈ X.objs w f t, h₀.get? p.1 = none)
    (hoff : ∀ p ∈ X.objs w f t, p.1 ∉ (D.objs w t).map (·.1)) (hsz : gs.length ≤ 1000)
    (h : ∀ r h' tk', (r = true ↔ OpenP ps gs) → s.heap.StaysIn h' → Q (.bool r) { s with heap := h', toks := tk' }) :
    wpAny (model PySem.Challenge.rw_pb0154_01.row.prog w) A (call (.ref 91) [.ref f]) Q E s := by
  have _fill : (PySem.Challenge.rw_pb0154_01 = PySem.Challenge.rw_pb0154_01 ∧ hd.heap_39 = hd.heap_39) := by (k_fill; exact ⟨rfl, rfl⟩)
  have nod := TT.2.addrs
  have hfl : s.heap.get? X.hl = some (listOf X.vs.toArray X.e) := FF.at_ (X.hl, listOf X.vs.toArray X.e) (by simp [FD.objs])
  have hff : s.heap.get? f = some (instObj 115 X.dx) := FF.at_ (f, instObj 115 X.dx) (by simp [FD.objs])
  have hfd := FF.at_ _ (List.mem_cons_of_mem _ (List.Mem.head _))
  have a1 : X.hl ≠ f := apart_of hfl hff (by simp)
  have a2 : X.hl ≠ X.dx := apart_of hfl hfd (by simp)
  refine wpAny_call ?_
  refine' enter (fp := (X.objs w f t).take 2 ++ (D.objs w t).take 2) (binds := [("self", .ref f)]) ok.room G st ?hN ?ho ?hcd ?hbind ?hloc ?_ ?hcell ?hco ?hgen ?hk
  case hN =>
    intro p hp
    rcases List.mem_append.mp hp with hp | hp
    · exact ⟨FF.at_ p (List.mem_of_mem_take hp), freshF p (List.mem_of_mem_take hp)⟩
    · exact ⟨TT.1 p (List.mem_of_mem_take hp), fresh p (List.mem_of_mem_take hp)⟩
  walk_at "ENTER"
  intro g L h₁ G' st' hb F N
  have X9 := G'.X
  obtain ⟨mean, mg, mb, T⟩ := G'.T
  have off : ∀ x ∈ (D.objs w t).drop 2, g.get? x.1 = some x.2 := fun x hx => hb _ _ (TT.1 x (List.mem_of_mem_drop hx)) fun hm => by
    rw [List.map_append] at hm
    rcases List.mem_append.mp hm with hm | hm
    · obtain ⟨p, hp, e⟩ := List.mem_map.mp hm
      exact hoff p (List.mem_of_mem_take hp) (by rw [e]; exact List.mem_map_of_mem (List.mem_of_mem_drop hx))
    · exact drop_off nod 2 hx hm
  have hgl : g.get? X.hl = some (listOf X.vs.toArray X.e) := hb _ _ hfl fun hm => by
    rw [List.map_append] at hm
    rcases List.mem_append.mp hm with hm | hm
    · simp only [FD.objs, List.take_succ_cons, List.take_zero, List.map_cons, List.map_nil, List.mem_cons, List.not_mem_nil, or_false] at hm
      rcases hm with e | e
      · exact a1 e
      · exact a2 e
    · obtain ⟨p, hp, e⟩ := List.mem_map.mp hm
      exact hoff (X.hl, listOf X.vs.toArray X.e) (by simp [FD.objs]) (by show X.hl ∈ _; rw [← e]; exact List.mem_map_of_mem (List.mem_of_mem_take hp))
  simp only [FD.objs, TD.objs, List.take_succ_cons, List.take_zero, List.cons_append, List.nil_append] at N
  walk_at "FOLD"
  walk_at "M"
  rename_i h2 F2 N2
  refine wpAny_For ?_
  walk_at "M"
  have TTat : ∀ {L : Addr} {h' : Heap} {m : Str → Option Value} {l : List (Addr × Obj)}, Fr g L h' m → News g L h' l → (∀ p ∈ (D.objs w t).take 2, p ∈ l) → TrieAt w h' t D ps Ev := by
    intro L h' m l F N hm
    refine ⟨fun p hp => ?_, TT.2⟩
    rw [← List.take_append_drop 2 (D.objs w t)] at hp
    rcases List.mem_append.mp hp with hp | hp
    · exact (N p (hm p hp)).1
    · exact F.keep _ _ (off p hp)
  have keepAll : ∀ {L : Addr} {h' : Heap} {m : Str → Option Value} {l : List (Addr × Obj)}, Fr g L h' m → News g L h' l → (∀ p ∈ (X.objs w f t).take 2 ++ (D.objs w t).take 2, p ∈ l) → s.heap.StaysIn h' := by
    intro L h' m l F N hm
    refine keep_of hb F (fun x hx => (N x (hm x hx)).1) fun x hx => ?_
    rcases List.mem_append.mp hx with hx | hx
    · exact FF.at_ x (List.mem_of_mem_take hx)
    · exact TT.1 x (List.mem_of_mem_take hx)
  refine iter_list (g := g) (vs := X.vs) (e := X.e) ok.hh (F2.keep _ _ hgl) F2 N2
    (fun i m news => ∃ (nI : Nat) (tkn : Tok) (u : Option Value), news = (X.objs w f t).take 2 ++ (D.objs w t).take 2 ∧ ps[nI]? = some (gs.take i) ∧
      m = (fun y => if y = Str.ofString "node" then some (.int (nI : Nat) tkn) else if y = Str.ofString "glyph" then u else List.lookup y [(Str.ofString "self", Value.ref f)].reverse)) ?_ ?_ ?_
  · refine' ⟨0, _, none, rfl, by simpa using TT.2.root, ?_⟩
    rotate_left
    funext y
    by_cases e1 : y = Str.ofString "node"
    · subst e1; rfl
    · by_cases e2 : y = Str.ofString "glyph"
      · subst e2; rfl
      · simp only [if_neg e1, if_neg e2]
  · intro I i v m₁ news₁ h5 tk5 oI hv hJ hIn hnI hax F5 N5
    obtain ⟨nI, tkn, u, rfl, hnode, rfl⟩ := hJ
    obtain ⟨k, tkk, rfl, hgk⟩ := ints_get FF.nums hv
    refine assign_name (by rfl) (by rfl) F5 N5 fun h6 F6 N6 hs6 => ?_
    clear F5 N5 F2 N2
    have N7 := N6
    simp only [FD.objs, TD.objs, List.take_succ_cons, List.take_zero, List.cons_append, List.nil_append] at N7
    walk_at "FOLD"
    walk_at "M"
    have hT6 := TTat F6 N6 (fun p hp => List.mem_append_left _ (List.mem_append_right _ hp))
    refine step_spec (h₀ := h₀) ((Ok.deeper ok).mono (by decide)) G (fun b o e => F6.keep _ _ (st' _ _ e)) hT6 fresh hnode (fun v h8 tk8 hv8 k8 => ?_)
    have F8 := Fr.keeps F6 k8
    have N8 := News.grown N7 k8
    clear F6 N6 N7
    rcases hv8 with ⟨j, tj, rfl, hj⟩ | ⟨hno, tj, rfl⟩
    · walk_at "M"
      · exfalso; omega
      rename Fr _ _ _ _ => F9; rename News _ _ _ _ => N9
      exact (show TurnEnd _ _ _ _ _ _ _ _ from ⟨_, _, _, (X.objs w f t).take 2 ++ (D.objs w t).take 2, rfl, F9, N9, hnI, (fun q hq => by rw [List.mem_singleton.mp hq]; exact F9.keep _ _ hgl), j, tj, _, rfl, by rw [take_snoc hgk]; exact hj, m_shape _ _ _ _ _ _ _⟩)
    · walk_at "M"
      rename Fr _ _ _ _ => F9; rename News _ _ _ _ => N9
      dsimp only [TurnPost]
      walk_at "M"
      refine h false _ _ ⟨fun e => (nomatch e), fun hO => ?_⟩ (keepAll F9 (l := (X.objs w f t).take 2 ++ (D.objs w t).take 2 ++ [(I, oI)]) N9 fun p hp => List.mem_append_left _ hp)
      have hlt := (List.getElem?_eq_some_iff.mp hgk).1
      rw [← take_snoc hgk] at hno
      exact absurd (take_closed TT.2.closed (gs.length - (i + 1)) (i + 1) gs.length (by omega) (Nat.le_refl _) (by rw [List.take_length]; exact hO.1)) hno
  · intro h5 tk5 m5 news5 hJ F5 N5 hax
    obtain ⟨nI, tkn, u, rfl, hnode, rfl⟩ := hJ
    rw [FF.nums.length, List.take_length] at hnode
    have hnd : D.nd.length = ps.length := TT.2.len
    have hn : nI < D.nd.length := by rw [hnd]; exact (List.getElem?_eq_some_iff.mp hnode).1
    obtain ⟨⟨d, o⟩, hp⟩ : ∃ p, D.nd[nI]? = some p := ⟨_, List.getElem?_eq_getElem hn⟩
    obtain ⟨kvs, hd1, hd2, hd3⟩ := TT.2.kids nI _ _ hp hnode
    have hlow := TT.2.low _ (List.mem_of_getElem? hp)
    have big := TT.2.small
    have hx : D.refs[((nI : Int)).toNat]? = some (.ref d) := by simp [TD.refs, hp]
    have N7 := N5
    simp only [FD.objs, TD.objs, List.take_succ_cons, List.take_zero, List.cons_append, List.nil_append] at N7
    walk_at "FOLD"
    walk_at "M"
    refine my_item (vs := D.refs) (isList_of (F5.keep _ _ (off (D.ls, listOf D.refs.toArray D.n2) (by simp [TD.objs])))) (by omega) (by omega) hx ?_
    walk_at "M"
    rename_i d9 h9 o9 F9 N9 lo9 hs9 fs9 hi9 fi9 l9
    have hdo : g.get? d = some o := off (d, o) (by simp only [TD.objs, List.drop_succ_cons, List.drop_zero, List.mem_cons]; exact .inr (.inr (List.mem_of_getElem? hp)))
    refine keq_ne (knd := PySem.intKind PR w) (kb := []) (r := true) hlow lo9 (Heap.dictOf_iff.mpr ⟨o, F9.keep _ _ hdo, hd1⟩) (Heap.dictOf_iff.mpr ⟨o9, (N9 _ (List.Mem.head _)).1, hi9⟩) (Ok.deeper ok).units (fun e => ?_) ?_
    · rw [List.length_eq_zero_iff.mp e]; exact .nil
    · refine h _ _ _ ?_ (keepAll F9 N9 fun p hp => List.mem_cons_of_mem _ (by simpa only [FD.objs, TD.objs, List.take_succ_cons, List.take_zero, List.cons_append, List.nil_append] using hp))
      have hk := kids_none hd2
      have hin := List.mem_of_getElem? hnode
      unfold OpenP
      simp only [List.length_nil, Bool.and_true, Bool.not_eq_true', beq_eq_false_iff_ne, ne_eq, hk, Classical.not_not]
      exact ⟨fun e => ⟨hin, e⟩, fun e => e.2⟩
end Mine

open PySem PySem.W PySem.Calls PyProof.Rows
set_option Elab.async false
set_option maxRecDepth 100000
namespace Mine
theorem freshDecide : True := by w_top off; trivial
local macro_rules | `(tactic| walk_at "STOP") => `(tactic| ((fail_if_success (with_reducible show wpAny _ _ (exec (Stmt.For _ _ _ _ _) _) _ _ _)); (fail_if_success (with_reducible show wpAny _ _ (exec (Stmt.While _ _ _ _) _) _ _ _)); (fail_if_success (with_reducible show wpAny _ _ (PySem.call (Value.ref _) _ _) _ _ _)); (fail_if_success (with_reducible show wpAny _ _ (eval (Expr.ListComp _ _ _ _) _) _ _ _))))
local macro_rules | `(tactic| walk_at "M") => `(tactic| repeat' (first | (k_unfold; (try dsimp only)) | (with_reducible refine wpAny_execs_nil ?_; try dsimp only) | (walk_at "STOP"; walk1 <;> (try dsimp only))))
local macro_rules | `(tactic| walk_at "ENTER") => `(tactic| ((case ho => k_is); (case hcd => k_is); (case hbind => exact BindsTo.of_eq rfl); (case hloc => exact locs rfl); (case hcell => decide); (case hco => rfl); (case hgen => rfl); (case hk => rfl)))
local macro_rules | `(tactic| walk_at "FOLD") => `(tactic| ((try dsimp only); (try (show wpAny _ _ _ _ _ _)); (try k_fold)))

set_option maxHeartbeats 4000000 in
theorem decide_spec {w : World} {A : Around} {s : Shared} {h₀ : Heap} {f t : Addr} {X : FD} {D : TD} {ps : List (List Int)} {Ev : List Int → Option Int} {gs : List Int} {Q : Value → Shared → Prop} {E : Value → Shared → Prop}
    (ok : Ok 6 A) (G : Gc w h₀) (st : h₀.StaysIn s.heap) (TT : TrieAt w s.heap t D ps Ev) (fresh : ∀ p ∈ D.objs w t, h₀.get? p.1 = none) (hne : ∀ q e, Ev q = some e → e ≠ -1) (FF : FeederAt w s.heap f t X gs) (freshF : ∀ p ∈ X.objs w f t, h₀.get? p.1 = none)
    (hoff : ∀ p ∈ X.objs w f t, p.1 ∉ (D.objs w t).map (·.1)) (hsz : gs.length ≤ 1000) (hgs : gs ≠ [])
    (h : ∀ n l tl hl' b' e' vs' h' tk', DecideP Ev gs n l → FeederAt w h' f t ⟨X.dx, hl', X.a, b', e', vs'⟩ (gs.drop n) → s.heap.get? hl' = none → (∀ b o, b ≠ X.dx → s.heap.get? b = some o → h'.get? b = some o) →
      Q (.int l tl) { s with heap := h', toks := tk' }) :
    wpAny (model PySem.Challenge.rw_pb0154_01.row.prog w) A (call (.ref 98) [.ref f]) Q E s := by
  have _fill : (PySem.Challenge.rw_pb0154_01 = PySem.Challenge.rw_pb0154_01 ∧ hd.heap_39 = hd.heap_39) := by (k_fill; exact ⟨rfl, rfl⟩)
  have hfl : s.heap.get? X.hl = some (listOf X.vs.toArray X.e) := FF.at_ (X.hl, listOf X.vs.toArray X.e) (by simp [FD.objs])
  have hff : s.heap.get? f = some (instObj 115 X.dx) := FF.at_ (f, instObj 115 X.dx) (by simp [FD.objs])
  have hfd := FF.at_ _ (List.mem_cons_of_mem _ (List.Mem.head _))
  have a1 : X.hl ≠ f := apart_of hfl hff (by simp)
  have a2 : X.hl ≠ X.dx := apart_of hfl hfd (by simp)
  have a3 : f ≠ X.dx := apart_of hff hfd (by simp)
  refine wpAny_call ?_
  refine' enter (fp := (X.objs w f t).take 2) (binds := [("self", .ref f)]) ok.room G st ?hN ?ho ?hcd ?hbind ?hloc ?_ ?hcell ?hco ?hgen ?hk
  case hN => exact fun p hp => ⟨FF.at_ p (List.mem_of_mem_take hp), freshF p (List.mem_of_mem_take hp)⟩
  walk_at "ENTER"
  intro g L h₁ G' st' hb F N
  have X9 := G'.X
  obtain ⟨mean, mg, mb, T⟩ := G'.T
  have off : ∀ x ∈ D.objs w t, g.get? x.1 = some x.2 := fun x hx => hb _ _ (TT.1 x hx) fun hm => by
    obtain ⟨p, hp, e⟩ := List.mem_map.mp hm
    exact hoff p (List.mem_of_mem_take hp) (by rw [e]; exact List.mem_map_of_mem hx)
  have hgl : g.get? X.hl = some (listOf X.vs.toArray X.e) := hb _ _ hfl fun hm => by
    simp only [FD.objs, List.take_succ_cons, List.take_zero, List.map_cons, List.map_nil, List.mem_cons, List.not_mem_nil, or_false] at hm
    rcases hm with e | e
    · exact a1 e
    · exact a2 e
  have gl : g.IsList X.hl X.vs.toArray := isList_of hgl
  have gi := FF.nums
  simp only [FD.objs, List.take_succ_cons, List.take_zero] at N
  have a3n : @Ne Nat f X.dx := a3
  have snew : ∀ b, g.get? b = none → b ≠ f → b ≠ X.dx → s.heap.get? b = none := by
    intro b e n1 n2
    cases q : s.heap.get? b with
    | none => rfl
    | some o =>
      have := hb b o q (by simp [FD.objs, n1, n2])
      rw [e] at this; cases this
  walk_at "FOLD"
  walk_at "M"
  have hlen : 0 < gs.length := List.length_pos_iff.mpr hgs
  refine longest_spec (h₀ := h₀) (D := D) (ps := ps) (Ev := Ev) (gs := gs) (vs := X.vs) (el := X.e) (Ok.deeper ok) G (fun b o e => F.keep _ _ (st' _ _ e)) ⟨fun p hp => F.keep _ _ (off p hp), TT.2⟩ fresh hne (F.keep _ _ hgl) gi (hoff (X.hl, listOf X.vs.toArray X.e) (by simp [FD.objs])) hsz (fun bb n lig t1 t2 h2 tk2 hlong k2 hbb hbn => ?_)
  have F2 := Fr.keeps F k2
  have N2 := News.grown N k2
  clear F N
  refine assign_pair ok.hh hbb (by rfl) (by rfl) (by rfl) F2 N2 (fun h3 tk3 F3 N3 k3 => ?_)
  clear F2 N2
  dsimp only
  walk_at "M"
  · rename_i D9 h9 F9 N9 l9
    with_unfolding_all refine wpAny_unpackItems_tuple (items := #[_, _]) ok.hh (isTuple_of (N9 _ (List.Mem.head _)).1) (fun h10 e10 => ?_)
    dsimp only
    have F10 := Fr.keeps F9 (ext_stays e10)
    have N10 := News.grown N9 (ext_stays e10)
    clear F9 N9 e10
    with_unfolding_all show wpAny _ _ (assignInOrder [bindName _ (Str.ofString "ligature"), bindName _ (Str.ofString "end")] [Value.int (gs.getD (Int.toNat 0) 0) _, Value.int 1 _]) _ _ _
    refine wpAny_assignInOrder_more (bind_name (by rfl) (by rfl) F10 N10 (fun h11 F11 N11 => ?_))
    refine wpAny_assignInOrder_more (bind_name (by rfl) (by rfl) F11 N11 (fun h12 F12 N12 => ?_))
    refine wpAny_assignInOrder_none ?_
    clear F10 N10 F11 N11
    dsimp only
    walk_at "M"
    refine kmk_slice_ints (s := { heap := _, gens := s.gens, drawn := s.drawn, toks := _, os := s.os }) F12 N12 (gl.at fun o e => F12.keep _ o e) (.int _ _) .none gi (kmk_from gi (by omega)) rfl (fun Dn ws hn Fn Nn ln hw he hle => ?_) (by with_unfolding_all rfl) (fun _ => by with_unfolding_all rfl) (by rw [List.size_toArray, gi.length, sizeLine_eq]; omega)
    clear F12 N12
    k_lt ln
    walk_at "M"
    rename Fr _ _ _ _ => F9; rename News _ _ _ _ => N9
    refine h 1 _ _ _ X.b 0 ws _ _ ⟨n, lig, hlong, .inl ⟨by assumption, rfl, by cases gs with | nil => exact absurd rfl hgs | cons x r => rfl⟩⟩ ⟨fun p hp => ?_, hw⟩ (snew _ (N9 (Dn, listOf ws.toArray 0) (by simp)).2.2 (Nat.ne_of_gt (by omega)) (Nat.ne_of_gt (by omega))) (fun b o hb9 e => ?_)
    · refine (N9 p ?_).1
      simp only [FD.objs, List.mem_cons, List.not_mem_nil, or_false] at hp ⊢
      rcases hp with e | e | e <;> simp [e]
    · by_cases ef : b = f
      · subst ef
        rw [hff] at e; rw [← Option.some.inj e]
        exact (N9 (b, instObj 115 X.dx) (by simp)).1
      · exact F9.keep b o (hb _ _ e (by simp [FD.objs, ef, hb9]))
  · have _d := 0
    refine kmk_slice_ints (s := { heap := _, gens := s.gens, drawn := s.drawn, toks := _, os := s.os }) F3 N3 (gl.at fun o e => F3.keep _ o e) (.int _ _) .none gi (kmk_from gi (by omega)) rfl (fun Dn ws hn Fn Nn ln hw he hle => ?_) (by with_unfolding_all rfl) (fun _ => by with_unfolding_all rfl) (by rw [List.size_toArray, gi.length, sizeLine_eq]; omega)
    clear F3 N3
    k_lt ln
    walk_at "M"
    rename Fr _ _ _ _ => F9; rename News _ _ _ _ => N9
    refine h n lig _ _ X.b 0 ws _ _ ⟨n, lig, hlong, .inr ⟨by assumption, rfl, rfl⟩⟩ ⟨fun p hp => ?_, hw⟩ (snew _ (N9 (Dn, listOf ws.toArray 0) (by simp)).2.2 (Nat.ne_of_gt (by omega)) (Nat.ne_of_gt (by omega))) (fun b o hb9 e => ?_)
    · refine (N9 p ?_).1
      simp only [FD.objs, List.mem_cons, List.not_mem_nil, or_false] at hp ⊢
      rcases hp with e | e | e <;> simp [e]
    · by_cases ef : b = f
      · subst ef
        rw [hff] at e; rw [← Option.some.inj e]
        exact (N9 (b, instObj 115 X.dx) (by simp)).1
      · exact F9.keep b o (hb _ _ e (by simp [FD.objs, ef, hb9]))
end Mine

open PySem PySem.W PySem.Calls PyProof.Rows
set_option Elab.async false
set_option maxRecDepth 100000
namespace Mine
theorem freshFeed : True := by w_top off; trivial
local macro_rules | `(tactic| walk_at "IN") => `(tactic| first | (with_reducible assumption) | exact List.mem_cons_self | ((with_reducible refine List.mem_append_left _ ?_); walk_at "IN") | ((with_reducible refine List.mem_append_right _ ?_); walk_at "IN") | ((with_reducible refine List.mem_cons_of_mem _ ?_); walk_at "IN") | (refine List.mem_cons_of_mem _ ?_; walk_at "IN") | (simp; done))
local macro_rules | `(tactic| walk_at "SUB") => `(tactic| first | exact subNil | ((with_reducible refine subApp ?_ ?_) <;> walk_at "SUB") | (refine subCons ?_ ?_; (walk_at "IN"); walk_at "SUB") | (intro q hq; walk_at "IN"))
local macro_rules | `(tactic| walk_at "STOP") => `(tactic| ((fail_if_success (with_reducible show wpAny _ _ (exec (Stmt.For _ _ _ _ _) _) _ _ _)); (fail_if_success (with_reducible show wpAny _ _ (exec (Stmt.While _ _ _ _) _) _ _ _)); (fail_if_success (with_reducible show wpAny _ _ (PySem.call (Value.ref _) _ _) _ _ _)); (fail_if_success (with_reducible show wpAny _ _ (eval (Expr.ListComp _ _ _ _) _) _ _ _)); (fail_if_success (with_reducible show Exists _))))
local macro_rules | `(tactic| walk_at "M") => `(tactic| repeat' (first | (k_unfold; (try dsimp only)) | (with_reducible refine wpAny_execs_nil ?_; try dsimp only) | (walk_at "STOP"; walk1 <;> (try dsimp only))))
local macro_rules | `(tactic| walk_at "ENTER") => `(tactic| ((case ho => k_is); (case hcd => k_is); (case hbind => exact BindsTo.of_eq rfl); (case hloc => exact locs rfl); (case hcell => decide); (case hco => rfl); (case hgen => rfl); (case hk => rfl)))
local macro_rules | `(tactic| walk_at "FOLD") => `(tactic| ((try dsimp only); (try (show wpAny _ _ _ _ _ _)); (try k_fold)))

set_option maxHeartbeats 4000000 in
theorem feed_spec {w : World} {A : Around} {s : Shared} {h₀ : Heap} {f t : Addr} {X : FD} {D : TD} {ps : List (List Int)} {Ev : List Int → Option Int} {gs : List Int} {k : Int} {tkg : Tok} {Q : Value → Shared → Prop} {E : Value → Shared → Prop}
    (ok : Ok 7 A) (G : Gc w h₀) (st : h₀.StaysIn s.heap) (TT : TrieAt w s.heap t D ps Ev) (fresh : ∀ p ∈ D.objs w t, h₀.get? p.1 = none) (hne : ∀ q e, Ev q = some e → e ≠ -1) (FF : FeederAt w s.heap f t X gs) (freshF : ∀ p ∈ X.objs w f t, h₀.get? p.1 = none)
    (hoff : ∀ p ∈ X.objs w f t, p.1 ∉ (D.objs w t).map (·.1)) (hsz : gs.length < 1000)
    (h : ∀ (X' : FD) (fl : Addr) (fvs : List Value) (ef : Nat) (out rest : List Int) (h' : Heap) (tk' : Nat), FeederAt w h' f t X' rest → X'.dx = X.dx → (X'.hl = X.hl ∨ s.heap.get? X'.hl = none) → h'.get? fl = some (listOf fvs.toArray ef) → IntsAre fvs out →
      Drain (OpenP ps) Ev (gs ++ [k]) out rest → s.heap.get? fl = none → fl ≠ X'.hl → (∀ b o, b ≠ X.dx → b ≠ X.hl → s.heap.get? b = some o → h'.get? b = some o) → Q (.ref fl) { s with heap := h', toks := tk' }) :
    wpAny (model PySem.Challenge.rw_pb0154_01.row.prog w) A (call (.ref 105) [.ref f, .int k tkg]) Q E s := by
  have _fill : (PySem.Challenge.rw_pb0154_01 = PySem.Challenge.rw_pb0154_01 ∧ hd.heap_39 = hd.heap_39) := by (k_fill; exact ⟨rfl, rfl⟩)
  have hfl : s.heap.get? X.hl = some (listOf X.vs.toArray X.e) := FF.at_ (X.hl, listOf X.vs.toArray X.e) (by walk_at "IN")
  have hff : s.heap.get? f = some (instObj 115 X.dx) := FF.at_ (f, instObj 115 X.dx) (by walk_at "IN")
  have hfd := FF.at_ _ (List.mem_cons_of_mem _ (List.Mem.head _))
  have a1 : @Ne Nat X.hl f := apart_of hfl hff (by simp)
  have a2 : @Ne Nat X.hl X.dx := apart_of hfl hfd (by simp)
  have a3 : @Ne Nat f X.dx := apart_of hff hfd (by simp)
  refine wpAny_call ?_
  refine' enter (fp := X.objs w f t) (binds := [("self", .ref f), ("glyph", .int k tkg)]) ok.room G st ?hN ?ho ?hcd ?hbind ?hloc ?_ ?hcell ?hco ?hgen ?hk
  case hN => exact fun p hp => ⟨FF.at_ p hp, freshF p hp⟩
  walk_at "ENTER"
  intro g L h₁ G' st' hb F N
  have X9 := G'.X
  obtain ⟨mean, mg, mb, T⟩ := G'.T
  have off : ∀ x ∈ D.objs w t, g.get? x.1 = some x.2 := fun x hx => hb _ _ (TT.1 x hx) fun hm => by
    obtain ⟨p, hp, e⟩ := List.mem_map.mp hm
    exact hoff p hp (by rw [e]; exact List.mem_map_of_mem hx)
  have gi := FF.nums
  have snew : ∀ b, g.get? b = none → b ≠ f → b ≠ X.dx → b ≠ X.hl → s.heap.get? b = none := by
    intro b e n1 n2 n3
    cases q : s.heap.get? b with
    | none => rfl
    | some o =>
      have := hb b o q (by simp [FD.objs, n1, n2, n3])
      rw [e] at this; cases this
  simp only [FD.objs] at N
  walk_at "FOLD"
  walk_at "M"
  rename_i tk0 h0 tkb fl h1 l1 h2 F2 N2
  rw [List.push_toArray] at N2
  have hfln : s.heap.get? fl = none := snew fl (N2 _ (List.Mem.head _)).2.2 (Nat.ne_of_gt l1.1) (Nat.ne_of_gt l1.2.1) (Nat.ne_of_gt l1.2.2)
  refine wpAny_While ?_
  refine codeAny_whileLoop (fun n s' => ∀ GG : Prop, (∀ (h' : Heap) (tk' : Nat) (X' : FD) (fvs : List Value) (ef : Nat) (gs' out : List Int), s' = { s with heap := h', toks := tk' } → Fr g L h' (fun y => if y = Str.ofString "found" then some (Value.ref fl) else List.lookup y [(Str.ofString "self", Value.ref f), (Str.ofString "glyph", Value.int k tkg)].reverse) → News g L h' ((fl, listOf fvs.toArray ef) :: X'.objs w f t) → IntsAre X'.vs gs' → IntsAre fvs out → X'.dx = X.dx → ((X'.hl = X.hl ∨ s.heap.get? X'.hl = none)) → fl ≠ X'.hl → n = gs'.length → gs'.length ≤ 1000 → out.length + gs'.length ≤ 2000 → (∀ o r, Drain (OpenP ps) Ev gs' o r → Drain (OpenP ps) Ev (gs ++ [k]) (out ++ o) r) → GG) → GG) ?_ (gs ++ [k]).length
    (fun GG kk => kk h2 _ ({ X with e := X.e + 1, vs := X.vs ++ [.int k tkg] }) [] 0 (gs ++ [k]) [] rfl F2 N2 (IntsAre.append gi (IntsAre.cons _ _ IntsAre.nil)) IntsAre.nil rfl (.inl rfl) (Nat.ne_of_gt l1.2.2) rfl (by simp; omega) (by simp; omega) (fun o r h => h))
  intro n s' hI9
  refine hI9 _ ?_
  clear hI9
  rintro h5 tk5 X' fvs ef gs' out rfl F5 N5 hx hf' edx ehl nfl rfl hle hle2 hdr
  have b1 : @Ne Nat X'.hl f := apart_of (N5 (X'.hl, listOf X'.vs.toArray X'.e) (by walk_at "IN")).1 (N5 (f, instObj 115 X'.dx) (by walk_at "IN")).1 (by simp)
  have keepF : ∀ {h' : Heap} {m : Str → Option Value}, Fr g L h' m → h'.get? f = some (instObj 115 X'.dx) → ∀ b o, b ≠ X.dx → b ≠ X.hl → s.heap.get? b = some o → h'.get? b = some o := by
    intro h' m F hf b o n1 n2 e
    by_cases ef : b = f
    · subst ef; rw [hff] at e; rw [← Option.some.inj e, hf, edx]
    · exact F.keep b o (hb _ _ e (by simp [FD.objs, ef, n1, n2]))
  have N6 := N5
  simp only [FD.objs] at N6
  walk_at "FOLD"
  walk_at "M"
  · have hT5 : TrieAt w h5 t D ps Ev := ⟨fun p hp => F5.keep _ _ (off p hp), TT.2⟩
    have hF5 : FeederAt w h5 f t X' gs' := ⟨fun p hp => (N5 p (List.mem_cons_of_mem _ hp)).1, hx⟩
    have hfr5 : ∀ p ∈ X'.objs w f t, h₀.get? p.1 = none := fun p hp => none_of_stays st' (N5 p (List.mem_cons_of_mem _ hp)).2.2
    have hof5 : ∀ p ∈ X'.objs w f t, p.1 ∉ (D.objs w t).map (·.1) := fun p hp hm => by
      obtain ⟨q, hq, e⟩ := List.mem_map.mp hm
      have := (N5 p (List.mem_cons_of_mem _ hp)).2.2
      rw [← e, off q hq] at this; cases this
    refine is_open_spec (h₀ := h₀) (X := X') (D := D) (ps := ps) (Ev := Ev) (gs := gs') ((Ok.deeper ok).mono (by decide)) G (fun b o e => F5.keep _ _ (st' _ _ e)) hT5 fresh hF5 hfr5 hof5 hle (fun r h6 tk6 hr k6 => ?_)
    have F6 := Fr.keeps F5 k6
    have N7 := News.grown N5 k6
    have N8 := News.grown N6 k6
    clear F5 N5 N6
    cases r with
    | true =>
      walk_at "M"
      exact h X' fl fvs ef out gs' h6 _ (hF5.keeps k6) edx ehl (N7 _ (List.Mem.head _)).1 hf' (by simpa using hdr [] gs' (.stop (.inr (hr.mp rfl)))) hfln nfl (keepF F6 (N7 (f, instObj 115 X'.dx) (by walk_at "IN")).1)
    | false =>
      walk_at "M"
      have hno : ¬ OpenP ps gs' := fun e => by cases hr.mpr e
      have hpos : 0 < gs'.length := by assumption
      have hg0 : gs' ≠ [] := List.length_pos_iff.mp hpos
      refine decide_spec (h₀ := h₀) (X := X') (D := D) (ps := ps) (Ev := Ev) (gs := gs') ((Ok.deeper ok).mono (by decide)) G (fun b o e => F6.keep _ _ (st' _ _ e)) (hT5.keeps k6) fresh hne (hF5.keeps k6) hfr5 hof5 hle hg0 (fun n l tl hl' b' e' vs' h7 tk7 hdec hF7 hn7 k7 => ?_)
      have hdxm := N8 _ (List.Mem.tail _ (List.Mem.tail _ (List.Mem.head _)))
      have hflm := N8 _ (List.Mem.head _)
      dsimp only at hdxm hflm
      have N9' := FeederAt.news F6 N7 (by walk_at "IN") ⟨_, List.mem_cons_of_mem _ (List.mem_cons_of_mem _ (List.Mem.head _))⟩ hF7 rfl hn7
      have F7 := fr_call F6 (fp := [(X'.dx, _)]) (fun p hp => by rw [List.mem_singleton.mp hp]; exact hdxm) (fun b o hb9 e => k7 b o (by simpa using hb9) e)
      have hfd9 : fl ≠ X'.dx := apart_of hflm.1 hdxm.1 (by simp)
      have flk : h7.get? fl = some (listOf fvs.toArray ef) := k7 fl _ hfd9 hflm.1
      have hl9 : fl ≠ hl' := fun e => by rw [← e, hflm.1] at hn7; cases hn7
      have N10 : News g L h7 [(fl, listOf fvs.toArray ef), (f, instObj 115 X'.dx), (X'.dx, dictOf [{ hash := PyData.keyHash w.params (Str.ofString "trie"), key := Value.str (Str.ofString "trie") X'.a, val := Value.ref t },
   { hash := PyData.keyHash w.params (Str.ofString "held"), key := Value.str (Str.ofString "held") b', val := Value.ref hl' }] 2), (hl', listOf vs'.toArray e')] := by
        intro p hp
        rcases List.mem_cons.mp hp with rfl | hp
        · exact ⟨flk, hflm.2⟩
        · exact N9' p hp
      have c1 : @Ne Nat fl f := apart_of flk (N10 (f, instObj 115 X'.dx) (by walk_at "IN")).1 (by simp)
      have c2 : @Ne Nat fl X'.dx := hfd9
      have c3 : @Ne Nat fl hl' := hl9
      have hlnew : hl' = X.hl ∨ s.heap.get? hl' = none := by
        by_cases e : hl' = X.hl
        · exact .inl e
        · refine .inr (snew hl' (fr_new' F6 hn7).2 (fun q => ?_) (fun q => ?_) e)
          · rw [q, (N7 (f, instObj 115 X'.dx) (by walk_at "IN")).1] at hn7; cases hn7
          · rw [q, ← edx, hdxm.1] at hn7; cases hn7
      have hpos2 := decide_pos hdec
      clear F6 N7 N8
      walk_at "M"
      rename Fr _ _ _ _ => F11; rename News _ _ _ _ => N11
      rw [List.push_toArray] at N11
      have hdl : (gs'.drop n).length = gs'.length - n := List.length_drop
      exact ⟨(gs'.drop n).length, by omega, fun GG kk => kk _ _ ⟨X'.dx, hl', X'.a, b', e', vs'⟩ (fvs ++ [.int l tl]) (ef + 1) (gs'.drop n) (out ++ [l]) rfl F11 N11 hF7.nums (IntsAre.append hf' (IntsAre.cons _ _ IntsAre.nil)) edx hlnew hl9 rfl (by omega) (by simp; omega) (fun o r ho => by
        have := hdr (l :: o) r (.step hg0 hno hdec ho)
        simpa using this)⟩
  · have hn0 : ¬ 0 < gs'.length := by assumption
    have hg0 : gs' = [] := List.length_eq_zero_iff.mp (by omega)
    exact h X' fl fvs ef out gs' h5 _ ⟨fun p hp => (N5 p (List.mem_cons_of_mem _ hp)).1, hx⟩ edx ehl (N5 _ (List.Mem.head _)).1 hf' (by simpa using hdr [] gs' (.stop (.inl hg0))) hfln nfl (keepF F5 (N5 (f, instObj 115 X'.dx) (by walk_at "IN")).1)
end Mine

open PySem PySem.W PySem.Calls PyProof.Rows
set_option Elab.async false
set_option maxRecDepth 100000
namespace Mine
theorem freshFinish : True := by w_top off; trivial
local macro_rules | `(tactic| walk_at "IN") => `(tactic| first | (with_reducible assumption) | exact List.mem_cons_self | ((with_reducible refine List.mem_append_left _ ?_); walk_at "IN") | ((with_reducible refine List.mem_append_right _ ?_); walk_at "IN") | ((with_reducible refine List.mem_cons_of_mem _ ?_); walk_at "IN") | (refine List.mem_cons_of_mem _ ?_; walk_at "IN") | (simp; done))
local macro_rules | `(tactic| walk_at "SUB") => `(tactic| first | exact subNil | ((with_reducible refine subApp ?_ ?_) <;> walk_at "SUB") | (refine subCons ?_ ?_; (walk_at "IN"); walk_at "SUB") | (intro q hq; walk_at "IN"))
local macro_rules | `(tactic| walk_at "STOP") => `(tactic| ((fail_if_success (with_reducible show wpAny _ _ (exec (Stmt.For _ _ _ _ _) _) _ _ _)); (fail_if_success (with_reducible show wpAny _ _ (exec (Stmt.While _ _ _ _) _) _ _ _)); (fail_if_success (with_reducible show wpAny _ _ (PySem.call (Value.ref _) _ _) _ _ _)); (fail_if_success (with_reducible show wpAny _ _ (eval (Expr.ListComp _ _ _ _) _) _ _ _)); (fail_if_success (with_reducible show Exists _))))
local macro_rules | `(tactic| walk_at "M") => `(tactic| repeat' (first | (k_unfold; (try dsimp only)) | (with_reducible refine wpAny_execs_nil ?_; try dsimp only) | (walk_at "STOP"; walk1 <;> (try dsimp only))))
local macro_rules | `(tactic| walk_at "ENTER") => `(tactic| ((case ho => k_is); (case hcd => k_is); (case hbind => exact BindsTo.of_eq rfl); (case hloc => exact locs rfl); (case hcell => decide); (case hco => rfl); (case hgen => rfl); (case hk => rfl)))
local macro_rules | `(tactic| walk_at "FOLD") => `(tactic| ((try dsimp only); (try (show wpAny _ _ _ _ _ _)); (try k_fold)))
set_option maxHeartbeats 4000000 in
theorem finish_spec {w : World} {A : Around} {s : Shared} {h₀ : Heap} {f t : Addr} {X : FD} {D : TD} {ps : List (List Int)} {Ev : List Int → Option Int} {gs : List Int} {Q : Value → Shared → Prop} {E : Value → Shared → Prop}
    (ok : Ok 7 A) (G : Gc w h₀) (st : h₀.StaysIn s.heap) (TT : TrieAt w s.heap t D ps Ev) (fresh : ∀ p ∈ D.objs w t, h₀.get? p.1 = none) (hne : ∀ q e, Ev q = some e → e ≠ -1) (FF : FeederAt w s.heap f t X gs) (freshF : ∀ p ∈ X.objs w f t, h₀.get? p.1 = none)
    (hoff : ∀ p ∈ X.objs w f t, p.1 ∉ (D.objs w t).map (·.1)) (hsz : gs.length < 1000)
    (h : ∀ (X' : FD) (fl : Addr) (fvs : List Value) (ef : Nat) (out rest : List Int) (h' : Heap) (tk' : Nat), FeederAt w h' f t X' rest → X'.dx = X.dx → (X'.hl = X.hl ∨ s.heap.get? X'.hl = none) → h'.get? fl = some (listOf fvs.toArray ef) → IntsAre fvs out →
      Drain (fun _ => False) Ev gs out rest → s.heap.get? fl = none → fl ≠ X'.hl → (∀ b o, b ≠ X.dx → b ≠ X.hl → s.heap.get? b = some o → h'.get? b = some o) → Q (.ref fl) { s with heap := h', toks := tk' }) :
    wpAny (model PySem.Challenge.rw_pb0154_01.row.prog w) A (call (.ref 112) [.ref f]) Q E s := by
  have _fill : (PySem.Challenge.rw_pb0154_01 = PySem.Challenge.rw_pb0154_01 ∧ hd.heap_39 = hd.heap_39) := by (k_fill; exact ⟨rfl, rfl⟩)
  have hfl : s.heap.get? X.hl = some (listOf X.vs.toArray X.e) := FF.at_ (X.hl, listOf X.vs.toArray X.e) (by walk_at "IN")
  have hff : s.heap.get? f = some (instObj 115 X.dx) := FF.at_ (f, instObj 115 X.dx) (by walk_at "IN")
  have hfd := FF.at_ _ (List.mem_cons_of_mem _ (List.Mem.head _))
  have a1 : @Ne Nat X.hl f := apart_of hfl hff (by simp)
  have a2 : @Ne Nat X.hl X.dx := apart_of hfl hfd (by simp)
  have a3 : @Ne Nat f X.dx := apart_of hff hfd (by simp)
  refine wpAny_call ?_
  refine' enter (fp := X.objs w f t) (binds := [("self", .ref f)]) ok.room G st ?hN ?ho ?hcd ?hbind ?hloc ?_ ?hcell ?hco ?hgen ?hk
  case hN => exact fun p hp => ⟨FF.at_ p hp, freshF p hp⟩
  walk_at "ENTER"
  intro g L h₁ G' st' hb F N
  have X9 := G'.X
  obtain ⟨mean, mg, mb, T⟩ := G'.T
  have off : ∀ x ∈ D.objs w t, g.get? x.1 = some x.2 := fun x hx => hb _ _ (TT.1 x hx) fun hm => by
    obtain ⟨p, hp, e⟩ := List.mem_map.mp hm
    exact hoff p hp (by rw [e]; exact List.mem_map_of_mem hx)
  have gi := FF.nums
  have snew : ∀ b, g.get? b = none → b ≠ f → b ≠ X.dx → b ≠ X.hl → s.heap.get? b = none := by
    intro b e n1 n2 n3
    cases q : s.heap.get? b with
    | none => rfl
    | some o =>
      have := hb b o q (by simp [FD.objs, n1, n2, n3])
      rw [e] at this; cases this
  simp only [FD.objs] at N
  walk_at "FOLD"
  walk_at "M"
  rename_i fl h1 l1 h2 F2 N2
  have hfln : s.heap.get? fl = none := snew fl (N2 _ (List.Mem.head _)).2.2 (Nat.ne_of_gt l1.1) (Nat.ne_of_gt l1.2.1) (Nat.ne_of_gt l1.2.2)
  refine wpAny_While ?_
  refine codeAny_whileLoop (fun n s' => ∀ GG : Prop, (∀ (h' : Heap) (tk' : Nat) (X' : FD) (fvs : List Value) (ef : Nat) (gs' out : List Int), s' = { s with heap := h', toks := tk' } → Fr g L h' (fun y => if y = Str.ofString "found" then some (Value.ref fl) else List.lookup y [(Str.ofString "self", Value.ref f)].reverse) → News g L h' ((fl, listOf fvs.toArray ef) :: X'.objs w f t) → IntsAre X'.vs gs' → IntsAre fvs out → X'.dx = X.dx → ((X'.hl = X.hl ∨ s.heap.get? X'.hl = none)) → fl ≠ X'.hl → n = gs'.length → gs'.length ≤ 1000 → out.length + gs'.length ≤ 2000 → (∀ o r, Drain (fun _ => False) Ev gs' o r → Drain (fun _ => False) Ev gs (out ++ o) r) → GG) → GG) ?_ gs.length
    (fun GG kk => kk h2 _ X [] 0 gs [] rfl F2 N2 gi IntsAre.nil rfl (.inl rfl) (Nat.ne_of_gt l1.2.2) rfl (by omega) (by simp; omega) (fun o r h => h))
  intro n s' hI9
  refine hI9 _ ?_
  clear hI9
  rintro h5 tk5 X' fvs ef gs' out rfl F5 N5 hx hf' edx ehl nfl rfl hle hle2 hdr
  have b1 : @Ne Nat X'.hl f := apart_of (N5 (X'.hl, listOf X'.vs.toArray X'.e) (by walk_at "IN")).1 (N5 (f, instObj 115 X'.dx) (by walk_at "IN")).1 (by simp)
  have keepF : ∀ {h' : Heap} {m : Str → Option Value}, Fr g L h' m → h'.get? f = some (instObj 115 X'.dx) → ∀ b o, b ≠ X.dx → b ≠ X.hl → s.heap.get? b = some o → h'.get? b = some o := by
    intro h' m F hf b o n1 n2 e
    by_cases ef : b = f
    · subst ef; rw [hff] at e; rw [← Option.some.inj e, hf, edx]
    · exact F.keep b o (hb _ _ e (by simp [FD.objs, ef, n1, n2]))
  have N6 := N5
  simp only [FD.objs] at N6
  walk_at "FOLD"
  walk_at "M"
  · have hT5 : TrieAt w h5 t D ps Ev := ⟨fun p hp => F5.keep _ _ (off p hp), TT.2⟩
    have hF5 : FeederAt w h5 f t X' gs' := ⟨fun p hp => (N5 p (List.mem_cons_of_mem _ hp)).1, hx⟩
    have hfr5 : ∀ p ∈ X'.objs w f t, h₀.get? p.1 = none := fun p hp => none_of_stays st' (N5 p (List.mem_cons_of_mem _ hp)).2.2
    have hof5 : ∀ p ∈ X'.objs w f t, p.1 ∉ (D.objs w t).map (·.1) := fun p hp hm => by
      obtain ⟨q, hq, e⟩ := List.mem_map.mp hm
      have := (N5 p (List.mem_cons_of_mem _ hp)).2.2
      rw [← e, off q hq] at this; cases this
    have hno : ¬ False := not_false
    have k6 : h5.StaysIn h5 := fun _ _ e => e
    have F6 := F5
    have N7 := N5
    have N8 := N6
    clear F5 N5 N6
    have hpos : 0 < gs'.length := by assumption
    have hg0 : gs' ≠ [] := List.length_pos_iff.mp hpos
    refine decide_spec (h₀ := h₀) (X := X') (D := D) (ps := ps) (Ev := Ev) (gs := gs') ((Ok.deeper ok).mono (by decide)) G (fun b o e => F6.keep _ _ (st' _ _ e)) (hT5.keeps k6) fresh hne (hF5.keeps k6) hfr5 hof5 hle hg0 (fun n l tl hl' b' e' vs' h7 tk7 hdec hF7 hn7 k7 => ?_)
    have hdxm := N8 _ (List.Mem.tail _ (List.Mem.tail _ (List.Mem.head _)))
    have hflm := N8 _ (List.Mem.head _)
    dsimp only at hdxm hflm
    have N9' := FeederAt.news F6 N7 (by walk_at "IN") ⟨_, List.mem_cons_of_mem _ (List.mem_cons_of_mem _ (List.Mem.head _))⟩ hF7 rfl hn7
    have F7 := fr_call F6 (fp := [(X'.dx, _)]) (fun p hp => by rw [List.mem_singleton.mp hp]; exact hdxm) (fun b o hb9 e => k7 b o (by simpa using hb9) e)
    have hfd9 : fl ≠ X'.dx := apart_of hflm.1 hdxm.1 (by simp)
    have flk : h7.get? fl = some (listOf fvs.toArray ef) := k7 fl _ hfd9 hflm.1
    have hl9 : fl ≠ hl' := fun e => by rw [← e, hflm.1] at hn7; cases hn7
    have N10 : News g L h7 [(fl, listOf fvs.toArray ef), (f, instObj 115 X'.dx), (X'.dx, dictOf [{ hash := PyData.keyHash w.params (Str.ofString "trie"), key := Value.str (Str.ofString "trie") X'.a, val := Value.ref t },
   { hash := PyData.keyHash w.params (Str.ofString "held"), key := Value.str (Str.ofString "held") b', val := Value.ref hl' }] 2), (hl', listOf vs'.toArray e')] := by
      intro p hp
      rcases List.mem_cons.mp hp with rfl | hp
      · exact ⟨flk, hflm.2⟩
      · exact N9' p hp
    have c1 : @Ne Nat fl f := apart_of flk (N10 (f, instObj 115 X'.dx) (by walk_at "IN")).1 (by simp)
    have c2 : @Ne Nat fl X'.dx := hfd9
    have c3 : @Ne Nat fl hl' := hl9
    have hlnew : hl' = X.hl ∨ s.heap.get? hl' = none := by
      by_cases e : hl' = X.hl
      · exact .inl e
      · refine .inr (snew hl' (fr_new' F6 hn7).2 (fun q => ?_) (fun q => ?_) e)
        · rw [q, (N7 (f, instObj 115 X'.dx) (by walk_at "IN")).1] at hn7; cases hn7
        · rw [q, ← edx, hdxm.1] at hn7; cases hn7
    have hpos2 := decide_pos hdec
    clear F6 N7 N8
    walk_at "M"
    rename Fr _ _ _ _ => F11; rename News _ _ _ _ => N11
    rw [List.push_toArray] at N11
    have hdl : (gs'.drop n).length = gs'.length - n := List.length_drop
    exact ⟨(gs'.drop n).length, by omega, fun GG kk => kk _ _ ⟨X'.dx, hl', X'.a, b', e', vs'⟩ (fvs ++ [.int l tl]) (ef + 1) (gs'.drop n) (out ++ [l]) rfl F11 N11 hF7.nums (IntsAre.append hf' (IntsAre.cons _ _ IntsAre.nil)) edx hlnew hl9 rfl (by omega) (by simp; omega) (fun o r ho => by
      have := hdr (l :: o) r (.step hg0 hno hdec ho)
      simpa using this)⟩
  · have hn0 : ¬ 0 < gs'.length := by assumption
    have hg0 : gs' = [] := List.length_eq_zero_iff.mp (by omega)
    exact h X' fl fvs ef out gs' h5 _ ⟨fun p hp => (N5 p (List.mem_cons_of_mem _ hp)).1, hx⟩ edx ehl (N5 _ (List.Mem.head _)).1 hf' (by simpa using hdr [] gs' (.stop (.inl hg0))) hfln nfl (keepF F5 (N5 (f, instObj 115 X'.dx) (by walk_at "IN")).1)
end Mine

open PySem PySem.W PySem.Calls PyProof.Rows
set_option Elab.async false
set_option maxRecDepth 100000
namespace Mine
theorem freshFeederNew : True := by w_top off; trivial
local macro_rules | `(tactic| walk_at "STOP") => `(tactic| ((fail_if_success (with_reducible show wpAny _ _ (exec (Stmt.For _ _ _ _ _) _) _ _ _)); (fail_if_success (with_reducible show wpAny _ _ (exec (Stmt.While _ _ _ _) _) _ _ _)); (fail_if_success (with_reducible show wpAny _ _ (PySem.call (Value.ref _) _ _) _ _ _)); (fail_if_success (with_reducible show wpAny _ _ (eval (Expr.ListComp _ _ _ _) _) _ _ _)); (fail_if_success (with_reducible show Exists _))))
local macro_rules | `(tactic| walk_at "M") => `(tactic| repeat' (first | (k_unfold; (try dsimp only)) | (with_reducible refine wpAny_execs_nil ?_; try dsimp only) | (walk_at "STOP"; walk1 <;> (try dsimp only))))
local macro_rules | `(tactic| walk_at "ENTER") => `(tactic| ((case ho => k_is); (case hcd => k_is); (case hbind => exact BindsTo.of_eq rfl); (case hloc => exact locs rfl); (case hcell => decide); (case hco => rfl); (case hgen => rfl); (case hk => rfl)))
local macro_rules | `(tactic| walk_at "FOLD") => `(tactic| ((try dsimp only); (try (show wpAny _ _ _ _ _ _)); (try k_fold)))

set_option maxHeartbeats 4000000 in
theorem feeder_new {w : World} {A : Around} {s : Shared} {h₀ : Heap} {t : Addr} {Q : Value → Shared → Prop} {E : Value → Shared → Prop}
    (ok : Ok 5 A) (G : Gc w h₀) (st : h₀.StaysIn s.heap)
    (h : ∀ f X h' tk', FeederAt w h' f t X [] → (∀ p ∈ X.objs w f t, s.heap.get? p.1 = none) → s.heap.StaysIn h' → Q (.ref f) { s with heap := h', toks := tk' }) :
    wpAny (model PySem.Challenge.rw_pb0154_01.row.prog w) A (call (.ref 115) [.ref t]) Q E s := by
  have _fill : (PySem.Challenge.rw_pb0154_01 = PySem.Challenge.rw_pb0154_01 ∧ hd.heap_39 = hd.heap_39) := by (k_fill; exact ⟨rfl, rfl⟩)
  refine wpAny_call ?_
  refine make_new (K := hd.heap_39 w.params) (fI := 84) (G.X.keeps st) (by k_is) (by k_is) (by k_is) ?_
  have okm : Ok 4 (A.under (.builtin "type.__call__" ⟨[.ref 115, .ref t], []⟩)) := ok.make
  have k1 : s.heap.StaysIn ((s.heap.push emptyDict).push (instObj 115 s.heap.objs.size)) := fun b o e => Heap.get?_push_of_some _ (Heap.get?_push_of_some _ e)
  have hx : ((s.heap.push emptyDict).push (instObj 115 s.heap.objs.size)).get? (s.heap.objs.size + 1) = some (instObj 115 s.heap.objs.size) := by
    have := Heap.get?_push_size (s.heap.push emptyDict) (o := instObj 115 s.heap.objs.size) rfl
    rwa [Heap.size_push] at this
  have hdx : ((s.heap.push emptyDict).push (instObj 115 s.heap.objs.size)).get? s.heap.objs.size = some (dictOf [] 0) := Heap.get?_push_of_some _ (Heap.get?_push_size _ rfl)
  have nx0 : s.heap.get? (s.heap.objs.size + 1) = none := none_of_size (by omega)
  have nd0 : s.heap.get? s.heap.objs.size = none := none_of_size (Nat.le_refl _)
  have nx : h₀.get? (s.heap.objs.size + 1) = none := none_of_stays st nx0
  have nd : h₀.get? s.heap.objs.size = none := none_of_stays st nd0
  generalize hX : s.heap.objs.size + 1 = x at *
  generalize hD : s.heap.objs.size = dx at *
  generalize hH : (s.heap.push emptyDict).push (instObj 115 dx) = H at *
  refine' enter (s := { s with heap := H }) (fp := [(x, instObj 115 dx), (dx, dictOf [] 0)]) (binds := [("self", .ref x), ("trie", .ref t)]) okm.room G (fun b o e => k1 b o (st b o e)) ?hN ?ho ?hcd ?hbind ?hloc ?_ ?hcell ?hco ?hgen ?hk
  case hN => simp [hx, hdx, nx, nd]
  walk_at "ENTER"
  intro g L h₁ G' st' hb F N
  have X := G'.X
  obtain ⟨mean, mg, mb, T⟩ := G'.T
  have hlt : dx < x := by omega
  walk_at "FOLD"
  walk_at "M"
  rename_i tk0 h2 lE h1 l1 hF F' N'
  obtain ⟨ta, tb, N2⟩ : ∃ a b, News g L hF [(lE, W.listOf #[] 0), (x, instObj 115 dx), (dx, dictOf [{ hash := PyData.keyHash w.params (Str.ofString "trie"), key := Value.str (Str.ofString "trie") a, val := Value.ref t },
            { hash := PyData.keyHash w.params (Str.ofString "held"), key := Value.str (Str.ofString "held") b, val := Value.ref lE }] 2)] := ⟨_, _, N'⟩
  have keepH : s.heap.StaysIn hF := by
    intro b o e
    have e1 := k1 _ _ e
    refine F'.keep b o (hb b o e1 ?_)
    simp only [List.map_cons, List.map_nil, List.mem_cons, List.not_mem_nil, or_false, not_or]
    exact ⟨fun q => (by rw [q, nx0] at e; cases e), fun q => (by rw [q, nd0] at e; cases e)⟩
  have new : ∀ b, g.get? b = none → b ≠ x → b ≠ dx → s.heap.get? b = none := by
    intro b e n1 n2
    cases q : s.heap.get? b with
    | none => rfl
    | some o =>
      have := hb b o (k1 _ _ q) (by simp [n1, n2])
      rw [e] at this; cases this
  have mem : ∀ p ∈ FD.objs w x t ⟨dx, lE, ta, tb, 0, []⟩, p ∈ [(lE, W.listOf #[] 0), (x, instObj 115 dx), (dx, dictOf [{ hash := PyData.keyHash w.params (Str.ofString "trie"), key := Value.str (Str.ofString "trie") ta, val := Value.ref t },
            { hash := PyData.keyHash w.params (Str.ofString "held"), key := Value.str (Str.ofString "held") tb, val := Value.ref lE }] 2)] := by
    intro p hp
    simp only [FD.objs, List.mem_cons, List.not_mem_nil, or_false] at hp ⊢
    rcases hp with e | e | e <;> simp [e]
  refine ⟨rfl, h x ⟨dx, lE, ta, tb, 0, []⟩ hF _ ⟨fun p hp => (N2 p (mem p hp)).1, IntsAre.nil⟩ ?_ keepH⟩
  intro p hp
  have hg := (N2 p (mem p hp)).2.2
  by_cases e1 : p.1 = x
  · rw [e1]; exact nx0
  · by_cases e2 : p.1 = dx
    · rw [e2]; exact nd0
    · exact new _ hg e1 e2
end Mine

open PySem PySem.W PySem.Calls PyProof.Rows
set_option Elab.async false
set_option maxRecDepth 100000
namespace Mine
theorem freshComps : True := by w_top off; trivial
section
variable {prog : Program} {w : World} {A : Around} {s : Shared} {env : Env} {g : Heap}

abbrev testsOf (ifs : List Expr) (env : Env) : Sem Bool := forIn ifs true fun c r => if r = true then do let ok ← isTrue c env (eval c env); pure (ForInStep.yield ok) else pure (ForInStep.yield r)

theorem cmp_loop {elt target iter : PySem.Expr} {ifs : List PySem.Expr} {scope : Scope} {pos : Pos} {it acc : Value} {env : Env} {R : Result → Shared → Prop} (I : Nat → Shared → Prop)
    (turn : ∀ n s, I n s → wpAny (model prog w) A (pyNext it) (fun r s₁ => match r with
      | none => R (.ok .next) s₁
      | some v => wpAny (model prog w) A (letOwnedTupleGo target it v) (fun _ s₀ => wpAny (model prog w) A (assign target env v) (fun _ s₂ =>
          wpAny (model prog w) A (testsOf ifs env) (fun ok s₃ => if ok = true then
          wpAny (model prog w) A (eval elt env) (fun x s₄ =>
            wpAny (model prog w) A (call (.builtin "list.append") [acc, x]) (fun _ s₅ => ∃ m, m < n ∧ I m s₅) (fun _ _ => False) s₄) (fun _ _ => False) s₃
          else ∃ m, m < n ∧ I m s₃) (fun _ _ => False) s₂)
          (fun _ _ => False) s₀) (fun _ _ => False) s₁) (fun _ _ => False) s)
    (n : Nat) (h : I n s) : codeAny (model prog w) A (.compLoop (.ListComp elt [⟨target, iter, ifs, 0⟩] scope pos) 0 it acc env) R s := by
  refine codeAny_loop rfl I (fun n s hI => ?_) n h
  show wpAny _ A ((compTurn (.ListComp elt [⟨target, iter, ifs, 0⟩] scope pos) 0 it acc env).onRaise (fun x => do noteFrame x env; theTreesLotGoes x)) _ _ s
  refine wpAny_noted ?_
  rw [compTurn_list]
  refine wpAny_bind (wpAny_standAt (wpAny_bind (wpAny_mono (turn n s hI) (fun r s₁ h₁ => ?_) fun _ _ h' => h'.elim)))
  cases r with
  | none => exact wpAny_pure h₁
  | some v =>
    refine wpAny_bind (wpAny_mono h₁ (fun _ s₀ h₀' => ?_) fun _ _ h' => h'.elim)
    refine wpAny_bind (wpAny_mono h₀' (fun _ s₂ h₂ => ?_) fun _ _ h' => h'.elim)
    refine wpAny_bind (wpAny_mono h₂ (fun ok s₃ h₃ => ?_) fun _ _ h' => h'.elim)
    cases ok with
    | false => exact wpAny_pure ⟨rfl, h₃⟩
    | true =>
      exact wpAny_bind (wpAny_bind (wpAny_mono h₃ (fun x s₄ h₄ => wpAny_bind (wpAny_mono h₄ (fun _ s₅ h₅ => wpAny_pure (wpAny_pure ⟨rfl, h₅⟩)) fun _ _ h' => h'.elim)) fun _ _ h' => h'.elim))

/-- what a turn of a comprehension hands back -/
def CEnd (g : Heap) (L C I D : Addr) (oI oL : Obj) (ys : List Value) (e : Nat) (deps : List (Addr × Obj)) (J : List Value → List (Addr × Obj) → Prop) (ys' : List Value) (s s₂ : Shared) : Prop :=
  ∃ h' tk' mc' news', s₂ = { s with heap := h', toks := tk' } ∧ Fr g C h' mc' ∧ News g C h' (news' ++ [(I, oI), (D, listOf ys.toArray e), (L, oL)]) ∧ (∀ p ∈ news', p.1 ≠ I ∧ p.1 ≠ D ∧ p.1 ≠ L) ∧ (∀ p ∈ deps, h'.get? p.1 = some p.2) ∧ J ys' news'

theorem compW {E : Value → Shared → Prop} {RR : Value → Addr → Result → Shared → Prop} {elt target iter : Expr} {ifs : List Expr} {scope : Scope} {cl : List (Str × Addr)} {pos : Pos} {I : Addr} {deps : List (Addr × Obj)} {n : Nat} {P : Nat → Value → Prop} {St : Nat → Heap → Prop} {m : Str → Option Value} {news₀ : List (Addr × Obj)}
    (W : Walks prog w A I (I :: deps.map (·.1)) [I] n P St) (hgo : ∀ i v (s : Shared) (Q : Unit → Shared → Prop) (E : Value → Shared → Prop), St i s.heap → Q () s → wpAny (model prog w) A (letOwnedTupleGo target (.ref I) v) Q E s)
    (hgI : g.get? I = none) (hLI : env.locals ≠ I) (hlive : ∀ i h, St i h → ∃ o, h.get? I = some o) (hsz : n ≤ sizeLine)
    (hcell : ∀ y ∈ scope.names, y.2 ≠ .cell) (hkind : scope.kind = .function)
    (hst : St 0 s.heap) (F : Fr g env.locals s.heap m) (N : News g env.locals s.heap news₀) (hnw : ∀ p ∈ news₀, p.1 ≠ I)
    (hd : ∀ p ∈ deps, s.heap.get? p.1 = some p.2) (hdI : ∀ p ∈ deps, p.1 ≠ I)
    (J : Nat → List Value → List (Addr × Obj) → Prop) (h0 : J 0 [] news₀)
    (turn : ∀ C D i v ys e mc news₁ h tk oI oL, i < n → P i v → J i ys news₁ → s.heap.get? C = none → s.heap.get? D = none → D ≠ C → (∀ p ∈ news₁, p.1 ≠ I ∧ p.1 ≠ D ∧ p.1 ≠ env.locals) → (∀ p ∈ deps, h.get? p.1 = some p.2) → Fr g C h mc → News g C h (news₁ ++ [(I, oI), (D, listOf ys.toArray e), (env.locals, oL)]) →
      wpAny (model prog w) A (assign target (compEnvC scope cl C env) v) (fun _ s₁ => wpAny (model prog w) A (testsOf ifs (compEnvC scope cl C env)) (fun ok s₂ => if ok = true then
          wpAny (model prog w) A (eval elt (compEnvC scope cl C env)) (fun y s₃ => CEnd g env.locals C I D oI oL ys e deps (J (i + 1)) (ys ++ [y]) { s with heap := h, toks := tk } s₃) (fun _ _ => False) s₂
        else CEnd g env.locals C I D oI oL ys e deps (J (i + 1)) ys { s with heap := h, toks := tk } s₂) (fun _ _ => False) s₁) (fun _ _ => False) { s with heap := h, toks := tk })
    (done : ∀ C D h' tk ys e mc news', J n ys news' → s.heap.get? C = none → s.heap.get? D = none → D ≠ C → h'.Ns C mc → (∀ p ∈ news', p.1 ≠ C) → Fr g env.locals h' m → News g env.locals h' (news' ++ [(D, listOf ys.toArray e)]) → (∀ p ∈ deps, h'.get? p.1 = some p.2) → RR (.ref D) C (.ok .next) { s with heap := h', toks := tk }) :
    wpAny (model prog w) A (newList []) (fun acc s₃ => wpAny (model prog w) A (newFunctionEnv scope env.globals cl [] env.qual none .none (some env)) (fun cenv s₄ =>
      codeAny (model prog w) A (.compStart (.ListComp elt [⟨target, iter, ifs, 0⟩] scope pos) 0 (.ref I) acc { cenv with scope := relabel scope env }) (RR acc cenv.locals) s₄) E s₃) E s := by
  refine wpAny_newObj_type (wpAny_newFunctionEnv hcell (by intro y hy; simp at hy) (fun h₁ hns₁ hsb₁ => ?_) hkind)
  dsimp only at hns₁ hsb₁ ⊢
  generalize hH2 : s.heap.push { cls := .type "list", dict := none, data := .seq ([] : List Value).toArray } = H2 at hns₁ hsb₁ ⊢
  have hC : H2.objs.size = s.heap.objs.size + 1 := by rw [← hH2, Heap.size_push]
  have hDC : s.heap.objs.size ≠ H2.objs.size := by rw [hC]; exact Nat.ne_of_lt (Nat.lt_succ_self _)
  have below : ∀ b, b < s.heap.objs.size → b ≠ H2.objs.size ∧ b ≠ s.heap.objs.size := fun b hb => ⟨by rw [hC]; exact Nat.ne_of_lt (Nat.lt_succ_of_lt hb), Nat.ne_of_lt hb⟩
  have old : s.heap.StaysIn h₁ := fun b o e => hsb₁.extBut b o (below b (Heap.lt_size e)).1 (Heap.get?_push_of_some _ (hH2 ▸ Heap.get?_push_of_some _ e))
  have freshD : s.heap.get? s.heap.objs.size = none := none_of_size (Nat.le_refl _)
  have freshC : s.heap.get? H2.objs.size = none := none_of_size (by rw [hC]; exact Nat.le_succ _)
  have hacc : h₁.get? s.heap.objs.size = some (listOf #[] 0) := hsb₁.extBut _ _ hDC (Heap.get?_push_of_some _ (hH2 ▸ Heap.get?_push_size _ rfl))
  obtain ⟨oL, esL, epL, hoL, rL⟩ := id F.ns
  obtain ⟨oI₀, hoI₀⟩ := hlive 0 _ hst
  have nL : ∀ h' : Heap, h'.get? env.locals = some oL → h'.Ns env.locals m := fun h' e => ⟨oL, esL, epL, e, rL⟩
  have ltL : env.locals < s.heap.objs.size := Heap.lt_size hoL
  have ltI : I < s.heap.objs.size := Heap.lt_size hoI₀
  generalize hCn : H2.objs.size = C at *
  generalize hDn : s.heap.objs.size = D at *
  have gC : g.get? C = none := none_of_stays (fun b o e => F.keep b o e) freshC
  have gD : g.get? D = none := none_of_stays (fun b o e => F.keep b o e) freshD
  have gL : g.get? env.locals = none := none_of_size F.above
  have hIC : I ≠ C := (below I ltI).1
  have hID : I ≠ D := (below I ltI).2
  have hLC : env.locals ≠ C := (below _ ltL).1
  have hLD : env.locals ≠ D := (below _ ltL).2
  have gle : g.objs.size ≤ C := Nat.le_trans F.above (by rw [hC]; exact Nat.le_of_lt (Nat.lt_succ_of_lt ltL))
  have loop : ∀ s₃ : Shared, s₃ = { s with heap := h₁, toks := s.toks + ([] : List (Str × Value)).length } →
      codeAny (model prog w) A (.compLoop (.ListComp elt [⟨target, iter, ifs, 0⟩] scope pos) 0 (.ref I) (.ref D) (compEnvC scope cl C env)) (RR (.ref D) C) s₃ := by
    rintro s₃ rfl
    refine cmp_loop (fun k s' => ∀ GG : Prop, (∀ h' tk mc news' i ys e, s' = { s with heap := h', toks := tk } → St i h' → Fr g C h' mc → h'.get? D = some (listOf (ys : List Value).toArray e) → h'.get? env.locals = some oL → News g C h' news' → (∀ p ∈ news', p.1 ≠ I ∧ p.1 ≠ D ∧ p.1 ≠ env.locals) → (∀ p ∈ deps, h'.get? p.1 = some p.2) → J i ys news' → i ≤ n → ys.length ≤ i → k = n + 1 - i → GG) → GG) ?_ (n + 1)
      (fun GG kk => kk h₁ _ _ news₀ 0 [] 0 rfl (W.frame _ _ _ hst fun b _ o e => old b o e) ⟨hns₁, fun b o e => old _ _ (F.keep b o e), gle⟩ hacc (old _ _ hoL) (fun p hp => ⟨old _ _ (N p hp).1, (below _ (hDn ▸ Heap.lt_size (N p hp).1)).1, (N p hp).2.2⟩) (fun p hp => ⟨hnw p hp, (below _ (hDn ▸ Heap.lt_size (N p hp).1)).2, (N p hp).2.1⟩) (fun p hp => old _ _ (hd p hp)) h0 (Nat.zero_le _) (Nat.zero_le _) rfl)
    intro k s' hI9
    refine hI9 _ ?_
    clear hI9
    rintro h' tk mc news' i ys e rfl hst' F' hD' hL' N' hnw' hd' hJ hi hys rfl
    have next : ∀ h₂ : Heap, (∀ b o, b ∉ [I] → h'.get? b = some o → h₂.get? b = some o) → Fr g C h₂ mc ∧ h₂.get? D = some (listOf ys.toArray e) ∧ h₂.get? env.locals = some oL ∧ News g C h₂ news' ∧ (∀ p ∈ deps, h₂.get? p.1 = some p.2) := fun h₂ hk₂ => by
      have hk : ∀ b o, b ≠ I → h'.get? b = some o → h₂.get? b = some o := fun b o hb e => hk₂ b o (by simpa using hb) e
      refine ⟨⟨F'.ns.at' fun o e => hk _ o (Ne.symm hIC) e, fun b o e => hk b o (fun q => ?_) (F'.keep b o e), F'.above⟩, hk _ _ (Ne.symm hID) hD', hk _ _ hLI hL', fun p hp => ⟨hk _ _ (hnw' p hp).1 (N' p hp).1, (N' p hp).2⟩, fun p hp => hk _ _ (hdI p hp) (hd' p hp)⟩
      rw [q, hgI] at e; cases e
    by_cases hlt : i < n
    · refine W.item i _ _ _ hlt hst' fun v h₂ tk₂ hP hst₂ hk₂ => ?_
      obtain ⟨F₂, D₂, L₂, N₂, d₂⟩ := next h₂ hk₂
      obtain ⟨oI, hoI⟩ := hlive _ _ hst₂
      have N₃ : News g C h₂ (news' ++ [(I, oI), (D, listOf ys.toArray e), (env.locals, oL)]) := fun p hp => by
        rcases List.mem_append.mp hp with hp | hp
        · exact N₂ p hp
        · rcases List.mem_cons.mp hp with rfl | hp
          · exact ⟨hoI, hIC, hgI⟩
          · rcases List.mem_cons.mp hp with rfl | hp
            · exact ⟨D₂, hDC, gD⟩
            · rw [List.mem_singleton.mp hp]; exact ⟨L₂, hLC, gL⟩
      refine hgo _ _ _ _ _ hst₂ ?_
      have back : ∀ {h₃ : Heap} {tk₃ : Nat} {mc₃ : Str → Option Value} {news₃ : List (Addr × Obj)} {ys' : List Value} {e' : Nat}, Fr g C h₃ mc₃ → News g C h₃ (news₃ ++ [(I, oI), (D, listOf ys'.toArray e'), (env.locals, oL)]) → (∀ p ∈ news₃, p.1 ≠ I ∧ p.1 ≠ D ∧ p.1 ≠ env.locals) → (∀ p ∈ deps, h₃.get? p.1 = some p.2) →
          J (i + 1) ys' news₃ → ys'.length ≤ i + 1 → ∃ m, m < n + 1 - i ∧ ∀ GG : Prop, (∀ h' tk mc news' i ys e, ({ s with heap := h₃, toks := tk₃ } : Shared) = { s with heap := h', toks := tk } → St i h' → Fr g C h' mc → h'.get? D = some (listOf (ys : List Value).toArray e) → h'.get? env.locals = some oL → News g C h' news' → (∀ p ∈ news', p.1 ≠ I ∧ p.1 ≠ D ∧ p.1 ≠ env.locals) → (∀ p ∈ deps, h'.get? p.1 = some p.2) → J i ys news' → i ≤ n → ys.length ≤ i → m = n + 1 - i → GG) → GG := by
        intro h₃ tk₃ mc₃ news₃ ys' e' F₃ N₃ s₃ d₃ hJ₃ hl₃
        refine ⟨n + 1 - (i + 1), by omega, fun GG kk => kk h₃ tk₃ mc₃ news₃ (i + 1) ys' e' rfl ?_ F₃ ((N₃ _ (List.mem_append_right _ (List.mem_cons_of_mem _ (List.Mem.head _)))).1) ((N₃ _ (List.mem_append_right _ (List.mem_cons_of_mem _ (List.mem_cons_of_mem _ (List.Mem.head _))))).1) (fun p hp => N₃ p (List.mem_append_left _ hp)) s₃ d₃ hJ₃ hlt hl₃ rfl⟩
        refine W.frame _ _ _ hst₂ fun b hb o eb => ?_
        rcases List.mem_cons.mp hb with rfl | hb
        · have := (N₃ (_, oI) (List.mem_append_right _ (List.Mem.head _))).1
          rw [hoI] at eb; rw [← Option.some.inj eb]; exact this
        · obtain ⟨p, hp, rfl⟩ := List.mem_map.mp hb
          rw [d₂ p hp] at eb; rw [← Option.some.inj eb]; exact d₃ p hp
      refine wpAny_mono (turn C D i v ys e mc news' h₂ tk₂ oI oL hlt hP hJ freshC freshD hDC hnw' d₂ F₂ N₃) (fun _ s₂ h₂' => wpAny_mono h₂' (fun ok s₃ h₃ => ?_) fun _ _ x => x) fun _ _ x => x
      cases ok with
      | false =>
        obtain ⟨h₃', tk₃, mc₃, news₃, rfl, F₃, N₄, s₃', d₃, hJ₃⟩ := h₃
        exact back F₃ N₄ s₃' d₃ hJ₃ (by omega)
      | true =>
        refine wpAny_mono h₃ (fun y s₄ h₄ => ?_) fun _ _ x => x
        obtain ⟨h₃', tk₃, mc₃, news₃, rfl, F₃, N₄, s₃', d₃, hJ₃⟩ := h₄
        have hDm := N₄ _ (List.mem_append_right _ (List.mem_cons_of_mem _ (List.Mem.head _)))
        refine append_at hDm.1 (fun h₅ hs₅ hl₅ => ?_) (by rw [List.size_toArray]; omega)
        rw [List.push_toArray] at hl₅
        have F₅ : Fr g C h₅ mc₃ := F₃.change hs₅ hDm.2.1 hDm.2.2
        refine back (e' := e + 1) F₅ (fun p hp => ?_) s₃' (fun p hp => ?_) hJ₃ (by simp; omega)
        · rcases List.mem_append.mp hp with hp | hp
          · have := N₄ p (List.mem_append_left _ hp)
            exact ⟨(hs₅.2 _ (s₃' p hp).2.1).trans this.1, this.2⟩
          · rcases List.mem_cons.mp hp with rfl | hp
            · have := N₄ (I, oI) (List.mem_append_right _ (List.Mem.head _))
              exact ⟨(hs₅.2 _ hID).trans this.1, this.2⟩
            · rcases List.mem_cons.mp hp with rfl | hp
              · exact ⟨hl₅, hDm.2⟩
              · rw [List.mem_singleton.mp hp]
                have := N₄ (env.locals, oL) (List.mem_append_right _ (List.mem_cons_of_mem _ (List.mem_cons_of_mem _ (List.Mem.head _))))
                exact ⟨(hs₅.2 _ hLD).trans this.1, this.2⟩
        · have := hd p hp
          have hpD : p.1 ≠ D := fun q => by rw [q, freshD] at this; cases this
          exact (hs₅.2 _ hpD).trans (d₃ p hp)
    · have hin : i = n := by omega
      subst hin
      refine W.done _ _ _ hst' fun h₂ tk₂ hk₂ => ?_
      obtain ⟨F₂, D₂, L₂, N₂, d₂⟩ := next h₂ hk₂
      refine done C D h₂ tk₂ ys e mc news' hJ freshC freshD hDC F₂.ns (fun p hp => (N₂ p hp).2.1) ⟨nL _ L₂, F₂.keep, F.above⟩ (fun p hp => ?_) d₂
      rcases List.mem_append.mp hp with hp | hp
      · exact ⟨(N₂ p hp).1, (hnw' p hp).2.2, (N₂ p hp).2.2⟩
      · rw [List.mem_singleton.mp hp]; exact ⟨D₂, Ne.symm hLD, gD⟩
  exact codeAny_compStart_list (loop _ rfl) (W.self 0 _ _ _ (W.frame _ _ _ hst fun b _ o e => old b o e) (loop _ rfl))
end
theorem mkCEnd {g h' : Heap} {L C I D : Addr} {oI oL : Obj} {ys ys' : List Value} {e : Nat} {deps : List (Addr × Obj)} {J : List Value → List (Addr × Obj) → Prop} {s : Shared} {tk' : Nat} {mc' : Str → Option Value} {news' : List (Addr × Obj)} (F : Fr g C h' mc') (N : News g C h' (news' ++ [(I, oI), (D, listOf ys.toArray e), (L, oL)])) (hn : ∀ p ∈ news', p.1 ≠ I ∧ p.1 ≠ D ∧ p.1 ≠ L) (hd : ∀ p ∈ deps, h'.get? p.1 = some p.2) (hJ : J ys' news') :
    CEnd g L C I D oI oL ys e deps J ys' s { s with heap := h', toks := tk' } := ⟨h', tk', mc', news', rfl, F, N, hn, hd, hJ⟩
end Mine

open PySem PySem.W PySem.Calls PyProof.Rows
set_option Elab.async false
set_option maxRecDepth 100000
namespace Mine
theorem freshComps2 : True := by w_top off; trivial
section
variable {prog : Program} {w : World} {A : Around} {s : Shared} {env : Env} {g : Heap}

theorem fin_none {E : Value → Shared → Prop} {Q : Value → Shared → Prop} {s : Shared} {L C D : Addr} {h' : Heap} {tk : Nat} {m mc : Str → Option Value} {ys : List Value} {e : Nat} {news' : List (Addr × Obj)}
    (gC : s.heap.get? C = none) (F₀ : Fr g L s.heap m) (hDC : D ≠ C) (n : h'.Ns C mc) (hC : ∀ p ∈ news', p.1 ≠ C) (F : Fr g L h' m) (N : News g L h' (news' ++ [(D, listOf ys.toArray e)]))
    (h : ∀ h'', Fr g L h'' m → News g L h'' (news' ++ [(D, listOf ys.toArray e)]) → Q (.ref D) { s with heap := h'', toks := tk }) :
    compPost (model prog w) A E none Q (.ref D) C (.ok .next) { s with heap := h', toks := tk } := by
  obtain ⟨o, _, _, ho, _⟩ := F₀.ns
  have hCL : C ≠ L := fun q => by rw [q, ho] at gC; cases gC
  refine ⟨mc, n, fun h'' hs => h h'' (F.change hs hCL (none_of_stays (fun b o e => F₀.keep b o e) gC)) fun p hp => ⟨hs.extBut _ _ ?_ (N p hp).1, (N p hp).2⟩⟩
  rcases List.mem_append.mp hp with hp | hp
  · exact hC p hp
  · rw [List.mem_singleton.mp hp]; exact hDC

theorem fin_assign {E : Value → Shared → Prop} {Q : Value → Shared → Prop} {s : Shared} {C D : Addr} {h' : Heap} {tk : Nat} {m mc : Str → Option Value} {ys : List Value} {e : Nat} {news' : List (Addr × Obj)} {y : Str} {py : Pos}
    (hy : env.kindOf y = some .local) (hp : (env.scope.kind == .class || (env.scope.kind == .module && env.locals != env.globals)) = false)
    (gC : s.heap.get? C = none) (F₀ : Fr g env.locals s.heap m) (hDC : D ≠ C) (n : h'.Ns C mc) (hC : ∀ p ∈ news', p.1 ≠ C) (F : Fr g env.locals h' m) (N : News g env.locals h' (news' ++ [(D, listOf ys.toArray e)]))
    (h : ∀ h'' tk', Fr g env.locals h'' (fun z => if z = y then some (.ref D) else m z) → News g env.locals h'' (news' ++ [(D, listOf ys.toArray e)]) → Q .none { s with heap := h'', toks := tk' }) :
    compPost (model prog w) A E (some (assign (.Name y py) env)) Q (.ref D) C (.ok .next) { s with heap := h', toks := tk } := by
  obtain ⟨o, _, _, ho, _⟩ := F₀.ns
  have hCL : C ≠ env.locals := fun q => by rw [q, ho] at gC; cases gC
  show wpAny _ A (assign (.Name y py) env (.ref D)) _ _ _
  refine assign_name hy hp F N fun h₂ F₂ N₂ hs₂ => ?_
  refine ⟨mc, n.sameBut hs₂ hCL, fun h'' hs => h h'' _ (F₂.change hs hCL (none_of_stays (fun b o e => F₀.keep b o e) gC)) fun p hp => ⟨hs.extBut _ _ ?_ (N₂ p hp).1, (N₂ p hp).2⟩⟩
  rcases List.mem_append.mp hp with hp | hp
  · exact hC p hp
  · rw [List.mem_singleton.mp hp]; exact hDC

theorem src_list {E : Value → Shared → Prop} {RR : Value → Addr → Result → Shared → Prop} {elt target iter : Expr} {ifs : List Expr} {scope : Scope} {cl : List (Str × Addr)} {pos : Pos} {ax : Addr} {vs : List Value} {e : Nat} {m : Str → Option Value} {news₀ : List (Addr × Obj)}
    (hh : A.handled = none) (hl : s.heap.get? ax = some (listOf vs.toArray e)) (hsz : vs.length ≤ sizeLine) (hcell : ∀ y ∈ scope.names, y.2 ≠ .cell) (hkind : scope.kind = .function)
    (F : Fr g env.locals s.heap m) (N : News g env.locals s.heap news₀)
    (J : Nat → List Value → List (Addr × Obj) → Prop) (h0 : J 0 [] news₀)
    (turn : ∀ C I D i v ys e' mc news₁ h tk oI oL, vs[i]? = some v → J i ys news₁ → s.heap.get? C = none → s.heap.get? I = none → s.heap.get? D = none → D ≠ C → (∀ p ∈ news₁, p.1 ≠ I ∧ p.1 ≠ D ∧ p.1 ≠ env.locals) → h.get? ax = some (listOf vs.toArray e) → Fr g C h mc → News g C h (news₁ ++ [(I, oI), (D, listOf ys.toArray e'), (env.locals, oL)]) →
      wpAny (model prog w) A (assign target (compEnvC scope cl C env) v) (fun _ s₁ => wpAny (model prog w) A (testsOf ifs (compEnvC scope cl C env)) (fun ok s₂ => if ok = true then
          wpAny (model prog w) A (eval elt (compEnvC scope cl C env)) (fun y s₃ => CEnd g env.locals C I D oI oL ys e' [(ax, listOf vs.toArray e)] (J (i + 1)) (ys ++ [y]) { s with heap := h, toks := tk } s₃) (fun _ _ => False) s₂
        else CEnd g env.locals C I D oI oL ys e' [(ax, listOf vs.toArray e)] (J (i + 1)) ys { s with heap := h, toks := tk } s₂) (fun _ _ => False) s₁) (fun _ _ => False) { s with heap := h, toks := tk })
    (done : ∀ C D h' tk ys e' mc news', J vs.length ys news' → s.heap.get? C = none → s.heap.get? D = none → D ≠ C → h'.Ns C mc → (∀ p ∈ news', p.1 ≠ C) → Fr g env.locals h' m → News g env.locals h' (news' ++ [(D, listOf ys.toArray e')]) → h'.get? ax = some (listOf vs.toArray e) → RR (.ref D) C (.ok .next) { s with heap := h', toks := tk }) :
    wpAny (model prog w) A (pyIter (.ref ax)) (fun it s₂ => wpAny (model prog w) A (newList []) (fun acc s₃ => wpAny (model prog w) A (newFunctionEnv scope env.globals cl [] env.qual none .none (some env)) (fun cenv s₄ =>
      codeAny (model prog w) A (.compStart (.ListComp elt [⟨target, iter, ifs, 0⟩] scope pos) 0 it acc { cenv with scope := relabel scope env }) (RR acc cenv.locals) s₄) E s₃) E s₂) E s := by
  refine wpAny_pyIter_list (isList_of hl) ?_
  have hne : ax ≠ s.heap.objs.size := Nat.ne_of_lt (Heap.lt_size hl)
  have W := Walks.list (prog := prog) (w := w) hh s.heap.objs.size ax hne vs.toArray
  have fresh : s.heap.get? s.heap.objs.size = none := none_of_size (Nat.le_refl _)
  have down : ∀ {x : Obj} b, (s.heap.push x).get? b = none → s.heap.get? b = none := fun b e => none_of_stays (fun b o e => Heap.get?_push_of_some _ e) e
  refine compW (deps := [(ax, listOf vs.toArray e)]) (news₀ := news₀) W (fun i v s Q E st h => letGo_listiter st.1 h) (none_of_stays (fun b o e => F.keep b o e) fresh) (Nat.ne_of_lt F.ns.lt) (fun i h st => let ⟨o, ho, _⟩ := st.1; ⟨o, ho⟩) (by rw [List.size_toArray]; exact hsz) hcell hkind
    ⟨⟨_, Heap.get?_push_size _ rfl, rfl, rfl⟩, (isList_of hl).at fun o e => Heap.get?_push_of_some _ e⟩ (F.push _) (fun p hp => ⟨Heap.get?_push_of_some _ (N p hp).1, (N p hp).2⟩) (fun p hp => Nat.ne_of_lt (Heap.lt_size (N p hp).1))
    (fun p hp => by rw [List.mem_singleton.mp hp]; exact Heap.get?_push_of_some _ hl) (fun p hp => by rw [List.mem_singleton.mp hp]; exact hne) J h0
    (fun C D i v ys e' mc news₁ h tk oI oL hi hP hJ hC hD hDC hn hd F₁ N₁ => turn C _ D i v ys e' mc news₁ h tk oI oL (by simpa using hP) hJ (down _ hC) fresh (down _ hD) hDC hn (hd _ (List.mem_singleton.mpr rfl)) F₁ N₁)
    fun C D h' tk ys e' mc news' hJ hC hD hDC n₁ hn F₁ N₁ hd => done C D h' tk ys e' mc news' (by simpa using hJ) (down _ hC) (down _ hD) hDC n₁ hn F₁ N₁ (hd _ (List.mem_singleton.mpr rfl))

theorem src_range {E : Value → Shared → Prop} {RR : Value → Addr → Result → Shared → Prop} {elt target iter : Expr} {ifs : List Expr} {scope : Scope} {cl : List (Str × Addr)} {pos : Pos} {r : Addr} {a b : Int} {t u v : Tok} {n : Nat} {m : Str → Option Value} {news₀ : List (Addr × Obj)}
    (hh : A.handled = none) (hr : IsRange s.heap r a b 1 t u v) (hsmall : Builtin.Range.small a b 1 = true) (hn : Builtin.Range.rangeSize a b 1 = (n : Int)) (hsz : n ≤ sizeLine) (hcell : ∀ y ∈ scope.names, y.2 ≠ .cell) (hkind : scope.kind = .function)
    (F : Fr g env.locals s.heap m) (N : News g env.locals s.heap news₀)
    (J : Nat → List Value → List (Addr × Obj) → Prop) (h0 : J 0 [] news₀)
    (turn : ∀ C I D i tv ys e' mc news₁ h tk oI oL, i < n → J i ys news₁ → s.heap.get? C = none → s.heap.get? I = none → s.heap.get? D = none → D ≠ C → (∀ p ∈ news₁, p.1 ≠ I ∧ p.1 ≠ D ∧ p.1 ≠ env.locals) → Fr g C h mc → News g C h (news₁ ++ [(I, oI), (D, listOf ys.toArray e'), (env.locals, oL)]) →
      wpAny (model prog w) A (assign target (compEnvC scope cl C env) (.int (a + (i : Nat)) tv)) (fun _ s₁ => wpAny (model prog w) A (testsOf ifs (compEnvC scope cl C env)) (fun ok s₂ => if ok = true then
          wpAny (model prog w) A (eval elt (compEnvC scope cl C env)) (fun y s₃ => CEnd g env.locals C I D oI oL ys e' [] (J (i + 1)) (ys ++ [y]) { s with heap := h, toks := tk } s₃) (fun _ _ => False) s₂
        else CEnd g env.locals C I D oI oL ys e' [] (J (i + 1)) ys { s with heap := h, toks := tk } s₂) (fun _ _ => False) s₁) (fun _ _ => False) { s with heap := h, toks := tk })
    (done : ∀ C D h' tk ys e' mc news', J n ys news' → s.heap.get? C = none → s.heap.get? D = none → D ≠ C → h'.Ns C mc → (∀ p ∈ news', p.1 ≠ C) → Fr g env.locals h' m → News g env.locals h' (news' ++ [(D, listOf ys.toArray e')]) → RR (.ref D) C (.ok .next) { s with heap := h', toks := tk }) :
    wpAny (model prog w) A (pyIter (.ref r)) (fun it s₂ => wpAny (model prog w) A (newList []) (fun acc s₃ => wpAny (model prog w) A (newFunctionEnv scope env.globals cl [] env.qual none .none (some env)) (fun cenv s₄ =>
      codeAny (model prog w) A (.compStart (.ListComp elt [⟨target, iter, ifs, 0⟩] scope pos) 0 it acc { cenv with scope := relabel scope env }) (RR acc cenv.locals) s₄) E s₃) E s₂) E s := by
  refine wpAny_pyIter_range hr hsmall ?_
  rw [hn]
  have W := Walks.range (prog := prog) (w := w) hh s.heap.objs.size a 1 n
  have fresh : s.heap.get? s.heap.objs.size = none := none_of_size (Nat.le_refl _)
  refine compW (deps := []) (news₀ := news₀) W (fun i v s Q E st h => letGo_rangeiter st h) (none_of_stays (fun b o e => F.keep b o e) fresh) (Nat.ne_of_lt F.ns.lt) (fun i h st => ⟨_, st⟩) hsz hcell hkind
    ?_ (F.push _) (fun p hp => ⟨Heap.get?_push_of_some _ (N p hp).1, (N p hp).2⟩) (fun p hp => Nat.ne_of_lt (Heap.lt_size (N p hp).1))
    (fun p hp => nomatch hp) (fun p hp => nomatch hp) J h0
    (fun C D i v ys e' mc news₁ h tk oI oL hi hP hJ hC hD hDC hn hd F₁ N₁ => ?_)
    fun C D h' tk ys e' mc news' hJ hC hD hDC n₁ hn F₁ N₁ hd => done C D h' tk ys e' mc news' hJ (none_of_stays (fun b o e => Heap.get?_push_of_some _ e) hC) (none_of_stays (fun b o e => Heap.get?_push_of_some _ e) hD) hDC n₁ hn F₁ N₁
  · show Heap.get? _ _ = some _
    simpa using Heap.get?_push_size s.heap (o := { cls := .type "range_iterator", data := .fields #[rawInt a, rawInt n, rawInt 1] }) rfl
  · obtain ⟨t', rfl⟩ := hP
    rw [Int.mul_one]
    exact turn C _ D i t' ys e' mc news₁ h tk oI oL hi hJ (none_of_stays (fun b o e => Heap.get?_push_of_some _ e) hC) fresh (none_of_stays (fun b o e => Heap.get?_push_of_some _ e) hD) hDC hn F₁ N₁

theorem comp_E {E : Value → Shared → Prop} {Q : Value → Shared → Prop} {elt target iter : Expr} {ifs : List Expr} {rest : List Comprehension} {scope : Scope} {pos : Pos} (cl : List (Str × Addr))
    (hclos : closureFor scope env = pure cl) (hkind : scope.kind = .function) (hnames : ∀ x ∈ scope.names, x.2 = .local → scope.names.lookup x.1 = some .local)
    (h : wpAny (model prog w) A (eval iter env) (fun x s₁ => wpAny (model prog w) A (pyIter x) (fun it s₂ => wpAny (model prog w) A (newList []) (fun acc s₃ =>
      wpAny (model prog w) A (newFunctionEnv scope env.globals cl [] env.qual none .none (some env)) (fun cenv s₄ =>
        codeAny (model prog w) A (.compStart (.ListComp elt (⟨target, iter, ifs, 0⟩ :: rest) scope pos) 0 it acc { cenv with scope := relabel scope env }) (compPost (model prog w) A E none Q acc cenv.locals) s₄) E s₃) E s₂) E s₁) E s)
    (hs : ∀ x, foldedSetIterable iter env x = pure x := by intro _; rfl) :
    wpAny (model prog w) A (eval (.ListComp elt (⟨target, iter, ifs, 0⟩ :: rest) scope pos) env) Q E s := by
  rw [eval_ListComp]
  exact wpAny_comprehension_free (use := none) rfl hs hclos hkind hnames h

theorem comp_A {E : Value → Shared → Prop} {Q : Flow → Shared → Prop} {elt target iter : Expr} {ifs : List Expr} {rest : List Comprehension} {scope : Scope} {pos spos py : Pos} {y : Str} (cl : List (Str × Addr))
    (hsw : swapsWith (.ListComp elt (⟨target, iter, ifs, 0⟩ :: rest) scope pos) (some (.Name y py)) spos.line env = pure true)
    (hclos : closureFor scope env = pure cl) (hkind : scope.kind = .function) (hnames : ∀ x ∈ scope.names, x.2 = .local → scope.names.lookup x.1 = some .local)
    (h : wpAny (model prog w) A (eval iter env) (fun x s₁ => wpAny (model prog w) A (pyIter x) (fun it s₂ => wpAny (model prog w) A (newList []) (fun acc s₃ =>
      wpAny (model prog w) A (newFunctionEnv scope env.globals cl [] env.qual none .none (some env)) (fun cenv s₄ =>
        codeAny (model prog w) A (.compStart (.ListComp elt (⟨target, iter, ifs, 0⟩ :: rest) scope pos) 0 it acc { cenv with scope := relabel scope env }) (compPost (model prog w) A E (some (assign (.Name y py) env)) (fun _ s' => Q .next s') acc cenv.locals) s₄) E s₃) E s₂) E s₁) E s)
    (hs : ∀ x, foldedSetIterable iter env x = pure x := by intro _; rfl) :
    wpAny (model prog w) A (exec (.Assign [.Name y py] (.ListComp elt (⟨target, iter, ifs, 0⟩ :: rest) scope pos) spos) env) Q E s := by
  rw [exec_Assign_Name_used _ _ _ _ hsw]
  refine wpAny_bind (wpAny_standAt (wpAny_bind ?_))
  show wpAny _ A (do let _ ← comprehension (.ListComp elt (⟨target, iter, ifs, 0⟩ :: rest) scope pos) scope env _ (newList []) false (eval iter env) (some (assign (.Name y py) env))) _ _ s
  exact wpAny_bind (wpAny_mono (wpAny_comprehension_free (use := some (assign (.Name y py) env)) (Q := fun _ s' => Q .next s') rfl hs hclos hkind hnames h) (fun _ s' hq => wpAny_pure (wpAny_pure hq)) fun _ _ e => e)

theorem tests_nil {E : Value → Shared → Prop} {cenv : Env} {Q : Bool → Shared → Prop} (h : Q true s) : wpAny (model prog w) A (testsOf [] cenv) Q E s := wpAny_pure h
theorem tests_one {E : Value → Shared → Prop} {cenv : Env} {c : Expr} {Q : Bool → Shared → Prop} (h : wpAny (model prog w) A (isTrue c cenv (eval c cenv)) Q E s) : wpAny (model prog w) A (testsOf [c] cenv) Q E s := by
  unfold testsOf
  rw [List.forIn_cons]
  refine wpAny_bind ?_
  rw [if_pos rfl]
  exact wpAny_bind (wpAny_mono h (fun b s' hb => wpAny_pure (wpAny_pure hb)) fun _ _ e => e)
end
end Mine

open PySem PySem.W PySem.Calls PyProof.Rows
set_option Elab.async false
set_option maxRecDepth 100000
namespace Mine
theorem freshEnterC : True := by w_top off; trivial
section
variable {prog : Program} {w : World} {A : Around} {s : Shared} {h₀ : Heap}
  {R : Result → Shared → Prop} {name qual : Str} {params : Arguments} {body : List Stmt} {scope : Scope} {dV kV doc pm cdv ct oc : Value} {an od : Option Addr} {osl : Array (Option Value)} {f : Addr} {args : Args} {binds : List (Str × Value)}
  {fp : List (Addr × Obj)}

theorem enterC (hroom : A.depth < recursionLimit) (G : Gc w h₀) (st : h₀.StaysIn s.heap) (N : ∀ p ∈ fp, s.heap.get? p.1 = some p.2 ∧ h₀.get? p.1 = none)
    (ho : (hd.heap_39 w.params).lookup f = some ⟨oc, od, .func (fnX name qual params body scope [] dV kV doc pm an cdv ct), osl⟩) (hcd : codeIn (hd.heap_39 w.params) cdv qual = true)
    (hbind : BindsTo s (fnX name qual params body scope [] dV kV doc pm an cdv ct) args binds)
    (hkind : ∀ n, ∀ x ∈ binds, scope.names.lookup x.1 = some .local ∨ (scope.names.lookup x.1 = some .cell ∧ ((cellsFrom n scope.names []).lookup x.1).isSome = true))
    (hnd : ((cellsFrom 0 scope.names []).map (·.1)).Nodup)
    (h : ∀ g L' h₁ tk cells, Gc w g → h₀.StaysIn g → (∀ b o, s.heap.get? b = some o → b ∉ fp.map (·.1) → g.get? b = some o) → Fr g L' h₁ (bindL (envOfC qual scope L' f cdv).kindOf binds fun _ => none) → News g L' h₁ (cells ++ fp) →
      CellsAre (bindC (envOfC qual scope L' f cdv).kindOf binds fun _ => none) (cellsFrom (L' + 1) scope.names []) cells → (∀ p ∈ cells, s.heap.get? p.1 = none) → (∀ p ∈ fp, p.1 < L') →
      wpAny (model prog w) (A.deeper (envOfC qual scope L' f cdv)) (execs body (envOfC qual scope L' f cdv))
        (fun fl s' => R (.ok (.ret (match fl with | .ret v => v | _ => .none))) s') (fun _ _ => False)
        { s with heap := h₁, toks := tk })
    (hco : scope.isCoroutine = false := by rfl) (hgen : scope.isGenerator = false := by rfl) (hk : scope.kind = .function := by rfl) :
    codeAny (model prog w) A (.call (.ref f) args) R s := by
  obtain ⟨mean, mg, mb, T⟩ := G.T
  have nm : ∀ b o, h₀.get? b = some o → b ∉ fp.map (·.1) := fun b o e q => by
    obtain ⟨p, hp, rfl⟩ := List.mem_map.mp q
    rw [(N p hp).2] at e; cases e
  have st' : h₀.StaysIn (hideAll s.heap (fp.map (·.1))) := fun b o e => hideAll_get _ (st b o e) (nm b o e)
  refine codeAny_call_function hroom (st _ _ (G.X _ _ ho)) rfl hco hgen rfl (codeRec_of (G.X.keeps st) hcd) (hbind _ _ _ _ ?_)
  refine wpAny_newFunctionEnv_cells hk (hkind _) fun env' he s' x => ?_
  subst he
  refine ⟨(T.nolimit.keeps st).keeps x.toInCall.keep, codeAny_func ?_⟩
  obtain ⟨h₁, tk, rfl, _⟩ := x.done
  have hk₁ := x.toInCall.keep
  obtain ⟨cells, NC, Y⟩ := Cl.news (h₀ := s.heap) (Nat.le_refl _) fun n c hm => ⟨x.cell n c (lookup_of_mem_nodup (cellsFrom_names scope.names 0 (s.heap.objs.size + 1) [] [] rfl ▸ hnd) hm), x.above n c hm⟩
  refine wpAny_mono (h _ s.heap.objs.size h₁ tk cells (G.keeps st') st' (fun b o e hb => hideAll_get _ e hb) ⟨x.toInCall.ns, fun b o e => hk₁ b o (of_hideAll _ e), Nat.le_of_eq (hideAll_size _ _)⟩ (fun p hp => ?_) Y (fun p hp => (NC p hp).2.2) (fun p hp => Heap.lt_size (N p hp).1)) (fun _ _ x => x) fun _ _ x => x.elim
  rcases List.mem_append.mp hp with hp | hp
  · refine ⟨(NC p hp).1, (NC p hp).2.1, ?_⟩
    cases q : (hideAll s.heap (fp.map (·.1))).get? p.1 with
    | none => rfl
    | some o => have := of_hideAll _ q; rw [(NC p hp).2.2] at this; cases this
  · exact ⟨hk₁ _ _ (N p hp).1, Nat.ne_of_lt (Heap.lt_size (N p hp).1), hideAll_none _ (List.mem_map_of_mem hp)⟩
end

end Mine

open PySem PySem.W PySem.Calls PyProof.Rows
set_option Elab.async false
set_option maxRecDepth 100000
namespace Mine
theorem freshDrawn : True := by w_top off; trivial
local macro_rules | `(tactic| walk_at "IN") => `(tactic| first | (with_reducible assumption) | exact List.mem_cons_self | ((with_reducible refine List.mem_append_left _ ?_); walk_at "IN") | ((with_reducible refine List.mem_append_right _ ?_); walk_at "IN") | ((with_reducible refine List.mem_cons_of_mem _ ?_); walk_at "IN") | (simp; done))
local macro_rules | `(tactic| walk_at "SUB") => `(tactic| first | exact subNil | ((with_reducible refine subApp ?_ ?_) <;> walk_at "SUB") | (refine subCons ?_ ?_; (walk_at "IN"); walk_at "SUB") | (intro q hq; walk_at "IN"))
local macro_rules | `(tactic| walk_at "STOP") => `(tactic| ((fail_if_success (with_reducible show wpAny _ _ (exec (Stmt.For _ _ _ _ _) _) _ _ _)); (fail_if_success (with_reducible show wpAny _ _ (exec (Stmt.While _ _ _ _) _) _ _ _)); (fail_if_success (with_reducible show wpAny _ _ (PySem.call (Value.ref _) _ _) _ _ _)); (fail_if_success (with_reducible show wpAny _ _ (eval (Expr.ListComp _ _ _ _) _) _ _ _)); (fail_if_success (with_reducible show Exists _))))
local macro_rules | `(tactic| walk_at "M") => `(tactic| repeat' (first | (k_unfold; (try dsimp only)) | (with_reducible refine wpAny_execs_nil ?_; try dsimp only) | (walk_at "STOP"; walk1 <;> (try dsimp only))))
local macro_rules | `(tactic| walk_at "ENTER") => `(tactic| ((case ho => k_is); (case hcd => k_is); (case hbind => exact BindsTo.of_eq rfl); (case hloc => exact locs rfl); (case hcell => decide); (case hco => rfl); (case hgen => rfl); (case hk => rfl)))
local macro_rules | `(tactic| walk_at "FOLD") => `(tactic| ((try dsimp only); (try (show wpAny _ _ _ _ _ _)); (try k_fold)))

abbrev penOf (c : Addr) (i v : Int) (t1 t2 : Tok) (e : Nat) : Obj := listOf #[.ref c, .int i t1, .int v t2] e
theorem news_pen {g h h' : Heap} {L p : Addr} {old new : Obj} {l l' : List (Addr × Obj)} (N : News g L h l) (hp : (p, old) ∈ l) (k : ∀ b o, b ≠ p → h.get? b = some o → h'.get? b = some o) (hp' : h'.get? p = some new)
    (hl : ∀ q ∈ l', q = (p, new) ∨ (q ∈ l ∧ @Ne Nat q.1 p)) : News g L h' l' := fun q hq => by
  rcases hl q hq with rfl | ⟨h1, h2⟩
  · exact ⟨hp', (N _ hp).2⟩
  · exact ⟨k _ _ h2 (N _ h1).1, (N _ h1).2⟩

theorem WordsIn.snoc {H : Addr → Obj → Prop} {items : List Value} {W : List (List Int × Int)} {v : Value} {x : List Int × Int} (h : WordsIn H items W) (hx : WordIn H v x) : WordsIn H (items ++ [v]) (W ++ [x]) := by
  refine ⟨by simp [h.len], fun i u e => ?_⟩
  by_cases hi : i < items.length
  · rw [List.getElem?_append_left hi] at e
    obtain ⟨y, e1, e2⟩ := h.word i u e
    exact ⟨y, by rw [List.getElem?_append_left (h.len ▸ hi)]; exact e1, e2⟩
  · rw [List.getElem?_append_right (by omega)] at e
    have hz : i - items.length = 0 := by
      have := (List.getElem?_eq_some_iff.mp e).1
      simp at this; omega
    rw [hz] at e
    have hi' : i = W.length := by have := h.len; omega
    refine ⟨x, ?_, ?_⟩
    · rw [hi']; simp
    · have : u = v := by simpa using e.symm
      rw [this]; exact hx

theorem ints_item : ∀ {vs : List Value} {ns : List Int}, IntsAre vs ns → ∀ (j : Nat) (h : j < vs.length), ∃ n t, vs[j] = .int n t
  | _, _, .nil, j, h => by simp at h
  | _, _, .cons n t r, 0, _ => ⟨n, t, rfl⟩
  | _, _, .cons n t r, j + 1, h => ints_item r j (by simpa using h)

theorem eq_tuples {A : Around} {s : Shared} {a b : Addr} {xs ys : List Value} {ns ms : List Int} {n1 n2 : Nat} (ha : s.heap.get? a = some (tupOf xs.toArray n1)) (hb : s.heap.get? b = some (tupOf ys.toArray n2)) (hi : IntsAre xs ns) (hj : IntsAre ys ms) (hu : A.units < cLine) :
    ∃ r, PySem.SeqAt.EqAt A s (.ref a) (.ref b) r := by
  by_cases hab : a = b
  · exact ⟨true, hab ▸ PySem.SeqAt.EqAt.same _⟩
  · have : ∀ j, ∃ r, ∀ (h1 : j < xs.toArray.size) (h2 : j < ys.toArray.size), PySem.SeqAt.EqAt A.in1 s xs.toArray[j] ys.toArray[j] r := by
      intro j
      by_cases h1 : j < xs.length
      · by_cases h2 : j < ys.length
        · obtain ⟨n, t, e1⟩ := ints_item hi j h1
          obtain ⟨m, u, e2⟩ := ints_item hj j h2
          refine ⟨PyData.eqv (.int n) (.int m), fun _ _ => ?_⟩
          simp only [List.getElem_toArray]
          rw [e1, e2]
          exact keq_flat (.int n t) (.int m u)
        · exact ⟨true, fun _ h => by simp at h; omega⟩
      · exact ⟨true, fun h _ => by simp at h; omega⟩
    obtain ⟨e, he⟩ := Classical.axiomOfChoice this
    exact ⟨_, PySem.SeqAt.EqAt.of_refs hab (PySem.SeqAt.RcAt.tuples (isTuple_of ha) (isTuple_of hb) hu he)⟩
theorem comp_name {M : Model} {A : Around} {E : Value → Shared → Prop} {s : Shared} {g : Heap} {env : Env} {x : Str} {pos : Pos} {m : Str → Option Value} {v : Value} {Q : Value → Shared → Prop} (hk : env.scope.kind = .function) (hl : env.kindOf x = some .local) (F : Fr g env.locals s.heap m) (hv : m x = some v)
    (hd : (x == ("__debug__" : Str)) = false) (h : Q v s) : wpAny M A (eval (.Name x pos) env) Q E s := wpAny_Name (wpAny_loadName_local hk hl F.ns hv h) hd
theorem notin_tuples {prog : Program} {w : World} {A : Around} {E : Value → Shared → Prop} {s : Shared} {wa D2 : Addr} {ys vs : List Value} {ns : List Int} {n e : Nat} {Q : Value → Shared → Prop} (hl : s.heap.get? D2 = some (listOf ys.toArray e)) (hwa : s.heap.get? wa = some (tupOf vs.toArray n)) (hi : IntsAre vs ns)
    (hu : A.in1.units < cLine) (hys : ∀ y ∈ ys, ∃ wy vy n2 zy, y = .ref wy ∧ s.heap.get? wy = some (tupOf (vy : List Value).toArray n2) ∧ IntsAre vy zy) (h : ∀ b : Bool, (b = false → ys ≠ []) → Q (.bool b) s) :
    wpAny (model prog w) A (compareOp .NotIn (.ref wa) (.ref D2)) Q E s := by
  have he : ∀ y : Value, ∃ r, y ∈ ys.toArray → PySem.SeqAt.EqAt A.in1 s y (.ref wa) r := fun y => by
    by_cases hy : y ∈ ys
    · obtain ⟨wy, vy, n2, zy, rfl, hm, hz⟩ := hys y hy
      obtain ⟨r, hr⟩ := eq_tuples (A := A.in1) hm hwa hz hi hu
      exact ⟨r, fun _ => hr⟩
    · exact ⟨true, fun h => absurd (by simpa using h) hy⟩
  obtain ⟨r, hr⟩ := Classical.axiomOfChoice he
  refine PySem.SeqAt.notIn_listAt r (isList_of hl) hr (h _ ?_)
  rintro e1 rfl
  simp at e1
theorem news_rot {g h : Heap} {L : Addr} {l : List (Addr × Obj)} {x : Addr × Obj} (N : News g L h (l ++ [x])) : News g L h (x :: l) := news_sub N fun q hq => by
  rcases List.mem_cons.mp hq with rfl | hq
  · exact List.mem_append_right _ (List.Mem.head _)
  · exact List.mem_append_left _ hq
theorem pen_step {g h h' : Heap} {L p fl cc : Addr} {ol oc old new : Obj} {rest : List (Addr × Obj)} (N : News g L h ((fl, ol) :: (cc, oc) :: (p, old) :: rest)) (h1 : @Ne Nat fl p) (h2 : @Ne Nat cc p) (h3 : ∀ q ∈ rest, @Ne Nat q.1 p)
    (k : ∀ b o, b ≠ p → h.get? b = some o → h'.get? b = some o) (hp' : h'.get? p = some new) : News g L h' ((fl, ol) :: (cc, oc) :: (p, new) :: rest) :=
  news_pen N (List.mem_cons_of_mem _ (List.mem_cons_of_mem _ (List.Mem.head _))) k hp' fun q hq => by
    rcases List.mem_cons.mp hq with rfl | hq
    · exact .inr ⟨List.Mem.head _, h1⟩
    · rcases List.mem_cons.mp hq with rfl | hq
      · exact .inr ⟨List.mem_cons_of_mem _ (List.Mem.head _), h2⟩
      · rcases List.mem_cons.mp hq with rfl | hq
        · exact .inl rfl
        · exact .inr ⟨List.mem_cons_of_mem _ (List.mem_cons_of_mem _ (List.mem_cons_of_mem _ hq)), h3 q hq⟩

theorem bd1 {i i6 d : Int} {k : Nat} (h1 : i < 900) (h3 : d < 6) (hk : k < (1 + d).toNat) (h : i6 ≤ i + 1 + 6 * k) : i6 ≤ 931 := by omega
theorem bd0 {i6 : Int} (h : i6 ≤ 931) : i6 < 1000 := by omega
theorem bd2 {i6 i8 i10 d8 : Int} {j : Nat} (h : i6 ≤ 931) (g : i8 ≤ i6 + 1) (b : d8 < 4) (c : j < (1 + d8).toNat) (e : i10 ≤ i8 + j) : i10 < 1000 := by omega
theorem bd3 {i6 i8 i10 d8 : Int} (h : i6 ≤ 931) (g : i8 ≤ i6 + 1) (b : d8 < 4) (e : i10 ≤ i8 + ((1 + d8).toNat : Nat)) : i10 < 1000 := by omega
theorem bd7 {i i6 i8 i13 d8 : Int} {k : Nat} (h : i6 ≤ i + 1 + 6 * k) (g : i8 ≤ i6 + 1) (b : d8 < 4) (e : i13 ≤ i8 + ((1 + d8).toNat : Nat)) : i13 ≤ i + 1 + 5 + 6 * k := by omega
theorem bd8 {i i13 : Int} {k : Nat} (h : i13 ≤ i + 1 + 5 + 6 * k) : i13 ≤ i + 1 + 6 * ((k + 1 : Nat) : Int) := by omega
theorem bd9 {i i13 i22 : Int} {k : Nat} (h : i13 ≤ i + 1 + 5 + 6 * k) (f : i22 ≤ i13 + 1) : i22 ≤ i + 1 + 6 * ((k + 1 : Nat) : Int) := by omega
theorem bd10 {i i6 d : Int} (b : d < 6) (h : i6 ≤ i + 1 + 6 * ((1 + d).toNat : Nat)) : i6 ≤ i + 40 := by omega
theorem bd11 {d : Int} {n : Nat} (b : d < 6) (h : n ≤ (1 + d).toNat) : n ≤ 6 := by omega
theorem bd12 {d : Int} (b : 0 ≤ d) : 1 ≤ (1 + d).toNat := by omega
theorem bd6 {d : Int} {k n : Nat} (b : d < 6) (hk : k < (1 + d).toNat) (h : n ≤ k) : n ≤ 6 := by omega
set_option maxHeartbeats 4000000 in
theorem drawn_spec {w : World} {A : Around} {s : Shared} {h₀ : Heap} {p c : Addr} {e ec : Nat} {ns : List Int} {vs : List Value} {i v : Int} {t1 t2 : Tok} {Q : Value → Shared → Prop} {E : Value → Shared → Prop}
    (ok : Ok 5 A) (G : Gc w h₀) (st : h₀.StaysIn s.heap) (hp : s.heap.get? p = some (listOf #[.ref c, .int i t1, .int v t2] e)) (hp0 : h₀.get? p = none)
    (hc : s.heap.get? c = some (listOf vs.toArray ec)) (hcp : c ≠ p) (hi : IntsAre vs ns) (hns : 0 < ns.length) (hns1 : ns.length ≤ 42)
    (hi0 : 0 ≤ i) (hi1 : i < 900) (hv : 0 ≤ v)
    (h : ∀ wl ew items W wo i' v' t1' t2' h' tk', h'.get? wl = some (listOf items.toArray ew) → (∀ q ∈ wo, h'.get? q.1 = some q.2 ∧ s.heap.get? q.1 = none) → s.heap.get? wl = none → (∀ q ∈ wo, q.1 ≠ wl) → WordsIn (AtNews wo) items W → 1 ≤ W.length → W.length ≤ 6 →
      (∀ x ∈ W, 1 ≤ x.1.length ∧ x.1.length ≤ 4) → (∀ x ∈ W, 10 ≤ x.2) → 0 ≤ i' → i' ≤ i + 40 → 0 ≤ v' → (∀ b o, b ≠ p → s.heap.get? b = some o → h'.get? b = some o) →
      h'.get? p = some (listOf #[.ref c, .int i' t1', .int v' t2'] e) → Q (.ref wl) { s with heap := h', toks := tk' }) :
    wpAny (model PySem.Challenge.rw_pb0154_01.row.prog w) A (call (.ref 131) [.ref p]) Q E s := by
  have _fill : (PySem.Challenge.rw_pb0154_01 = PySem.Challenge.rw_pb0154_01 ∧ hd.heap_39 = hd.heap_39) := by (k_fill; exact ⟨rfl, rfl⟩)
  refine wpAny_call ?_
  refine' enterC (fp := [(p, listOf #[.ref c, .int i t1, .int v t2] e)]) (binds := [("pen", .ref p)]) ok.room G st ?hN ?ho ?hcd ?hbind ?hkind ?hnd ?_ ?hco ?hgen ?hk
  case hN => simp [hp, hp0]
  case ho => k_is
  case hcd => k_is
  case hbind => exact BindsTo.of_eq rfl
  case hkind => exact fun n => kinds_of (by exact ⟨.inr ⟨rfl, rfl⟩, trivial⟩)
  case hnd => decide +kernel
  case hco => rfl
  case hgen => rfl
  case hk => rfl
  intro g L h₁ tk1 cells G' st' hb F N Y hcn hlt
  have X := G'.X
  obtain ⟨mean, mg, mb, T⟩ := G'.T
  obtain ⟨oc, rfl, dc⟩ := CellsAre.one Y
  have hcg : g.get? c = some (listOf vs.toArray ec) := hb c _ hc (by simpa using hcp)
  simp only [List.cons_append, List.nil_append] at N
  change Fr g L h₁ (fun _ => none) at F
  replace dc : oc.data = .cell (some (.ref p)) := dc
  clear Y
  walk_at "FOLD"
  walk_at "M"
  rename_i fl h2 l1 h3 F3 N3
  refine wpAny_For ?_
  walk_at "M"
  have hpL : @LT.lt Nat _ p L := hlt _ (List.mem_singleton.mpr rfl)
  refine draw_spec (h₀ := g) ((Ok.deeper ok).mono (by decide)) G' F3.keep (N3 (p, penOf c i v t1 t2 e) (by walk_at "IN")).1 (N3 (p, penOf c i v t1 t2 e) (by walk_at "IN")).2.2 (F3.keep _ _ hcg) hcp hi hns hns1 hi0 (by omega) hv (by decide) (by decide) (fun d i4 v4 td t14 t24 h4 tk4 d0 d6 i40 i4le v40 k4 p4 => ?_)
  have F4 := fr_call F3 (fp := [(p, penOf c i v t1 t2 e)]) (fun q hq => by rw [List.mem_singleton.mp hq]; exact N3 _ (by simp)) (fun b o hb9 e => k4 b o (by simpa using hb9) e)
  have N4 := news_pen (old := penOf c i v t1 t2 e) N3 (by simp) k4 p4 (l' := [(fl, listOf #[] 0), (L + 1, oc), (p, listOf #[.ref c, .int i4 t14, .int v4 t24] e)]) (by simp; omega)
  clear F3 N3
  walk_at "M"
  rename IsRange _ _ _ _ _ _ _ _ => hr; rename Fr _ _ _ _ => F5; rename News _ _ _ _ => N5
  refine iter_range (n := (1 + d).toNat) ok.hh hr (small_one (by omega) (by omega) (by omega) (by omega)) (by rw [rangeSize_nat, Int.sub_zero]) F5 N5
    (fun k m news => ∀ GG : Prop, (∀ (items : List Value) (ef : Nat) (W : List (List Int × Int)) (wo : List (Addr × Obj)) (i' v' : Int) (t1' t2' : Tok) (u1 u2 : Option Value), news = (fl, listOf items.toArray ef) :: (L + 1, oc) :: (p, penOf c i' v' t1' t2' e) :: wo → WordsIn (AtNews wo) items W → W.length ≤ k → (1 ≤ k → 1 ≤ W.length) → (∀ x ∈ W, 1 ≤ x.1.length ∧ x.1.length ≤ 4) → (∀ x ∈ W, 10 ≤ x.2) → 0 ≤ i' → i' ≤ i + 1 + 6 * k → 0 ≤ v' → (∀ q ∈ wo, q.2.cls = .type "tuple") → m = (fun y => if y = Str.ofString "word" then u1 else if y = Str.ofString "turn" then u2 else if y = Str.ofString "found" then some (.ref fl) else none) → GG) → GG) ?_ ?_ ?_
  · refine (fun GG kk => kk [] 0 [] [] i4 v4 t14 t24 none none rfl ⟨rfl, fun _ _ h => by simp at h⟩ (by simp) (by simp) (by simp) (by simp) i40 (by omega) v40 (by simp) ?_)
    funext y
    by_cases e1 : y = Str.ofString "word"
    · subst e1; rfl
    · by_cases e2 : y = Str.ofString "turn"
      · subst e2; rfl
      · rw [if_neg e1, if_neg e2]
  · intro I k tv m₁ news₁ h6 tk6 oI hk hJ hIn hnI F6 N6
    refine hJ _ ?_
    clear hJ
    rintro items ef W wo i6 v6 t16 t26 u1 u2 rfl hW hWk hWp hW4 hW10 i60 i6le v60 hwo rfl
    have i6b : i6 ≤ 931 := bd1 hi1 ‹d < 6› hk i6le
    refine assign_name rfl rfl F6 N6 (fun h7 F7 N7 k7 => ?_)
    clear F5 N5 F6 N6
    walk_at "FOLD"
    walk_at "M"
    refine comp_E [(Str.ofString "pen", L + 1)] rfl rfl (by decide) ?_
    walk_at "M"
    have N7' : News g L h7 ((fl, listOf items.toArray ef) :: (L + 1, oc) :: (p, penOf c i6 v6 t16 t26 e) :: (wo ++ [(I, oI)])) := N7
    have hflp : @Ne Nat fl p := by omega
    have hcp' : @Ne Nat (L + 1) p := by omega
    have hrp : ∀ q ∈ wo ++ [(I, oI)], @Ne Nat q.1 p := fun q hq => by
      rcases List.mem_append.mp hq with hq | hq
      · exact apart_of (N7' q (by walk_at "IN")).1 (N7' (p, penOf c i6 v6 t16 t26 e) (by walk_at "IN")).1 (by rw [hwo q hq]; simp)
      · rw [List.mem_singleton.mp hq]; exact fun z => hnI (p, penOf c i6 v6 t16 t26 e) (by walk_at "IN") z.symm
    refine draw_spec (h₀ := g) ((Ok.deeper ok).mono (by decide)) G' F7.keep (N7' (p, penOf c i6 v6 t16 t26 e) (by walk_at "IN")).1 (N7' (p, penOf c i6 v6 t16 t26 e) (by walk_at "IN")).2.2 (F7.keep _ _ hcg) hcp hi hns hns1 i60 (bd0 i6b) v60 (by decide) (by decide) (fun d8 i8 v8 td8 t18 t28 h8 tk8 d80 d84 i80 i8le v80 k8 p8 => ?_)
    have F8 := fr_call F7 (fp := [(p, penOf c i6 v6 t16 t26 e)]) (fun q hq => by rw [List.mem_singleton.mp hq]; exact N7' (p, penOf c i6 v6 t16 t26 e) (by walk_at "IN")) (fun b o hb9 e => k8 b o (by simpa using hb9) e)
    have N8 := pen_step N7' hflp hcp' hrp k8 p8
    clear F7 N7 N7' k7 hr
    walk_at "M"
    rename IsRange _ _ _ _ _ _ _ _ => hr; rename Fr _ _ _ _ => F9; rename News _ _ _ _ => N9
    refine src_range (n := (1 + d8).toNat) (RR := fun acc C => compPost _ _ _ none _ acc C) ok.hh hr (small_one (by omega) (by omega) (by omega) (by omega)) (by rw [rangeSize_nat, Int.sub_zero]) ?hsz (by decide) rfl F9 N9
      (fun k ys news => ∀ GG : Prop, (∀ (i' v' : Int) (t1' t2' : Tok) (zs : List Int), news = (fl, listOf items.toArray ef) :: (L + 1, oc) :: (p, penOf c i' v' t1' t2' e) :: (wo ++ [(I, oI)]) → IntsAre ys zs → ys.length = k → 0 ≤ i' → i' ≤ i8 + k → 0 ≤ v' → GG) → GG) ?_ ?_ ?_
    · exact Nat.le_trans (m := 64) (by omega) (by decide)
    · exact (fun GG kk => kk i8 v8 t18 t28 [] rfl IntsAre.nil rfl i80 (by simp) v80)
    · intro C I2 D j tj ys e2 mc news₂ h10 tk10 oI2 oL hj hJ hC hI2 hD hDC hn2 F10 N10
      refine hJ _ ?_
      clear hJ
      rintro i10 v10 t110 t210 zs rfl hys hyl i100 i10le v100
      refine assign_name (env := compEnvC _ _ C _) rfl rfl F10 N10 (fun h11 F11 N11 k11 => ?_)
      clear F9 N9 F10 N10
      refine tests_nil ?_
      rw [if_pos rfl]
      walk_at "M"
      have N11' : News g C h11 ((fl, listOf items.toArray ef) :: (L + 1, oc) :: (p, penOf c i10 v10 t110 t210 e) :: ((wo ++ [(I, oI)]) ++ [(I2, oI2), (D, listOf ys.toArray e2), (L, oL)])) := N11
      have hpn := hn2 (p, penOf c i10 v10 t110 t210 e) (by walk_at "IN")
      have hrp2 : ∀ q ∈ (wo ++ [(I, oI)]) ++ [(I2, oI2), (D, listOf ys.toArray e2), (L, oL)], @Ne Nat q.1 p := fun q hq => by
        rcases List.mem_append.mp hq with hq | hq
        · exact hrp q hq
        · simp only [List.mem_cons, List.not_mem_nil, or_false] at hq
          rcases hq with rfl | rfl | rfl
          · exact fun z => hpn.1 z.symm
          · exact fun z => hpn.2.1 z.symm
          · exact Nat.ne_of_gt hpL
      refine draw_spec (h₀ := g) ((Ok.deeper ok).mono (by decide)) G' F11.keep (N11' (p, penOf c i10 v10 t110 t210 e) (by walk_at "IN")).1 (N11' (p, penOf c i10 v10 t110 t210 e) (by walk_at "IN")).2.2 (F11.keep _ _ hcg) hcp hi hns hns1 i100 (bd2 i6b ‹i8 ≤ i6 + 1› ‹d8 < 4› hj i10le) v100 (by decide) (by decide) (fun d12 i12 v12 td12 t112 t212 h12 tk12 d120 d124 i120 i12le v120 k12 p12 => ?_)
      have F12 := fr_call F11 (fp := [(p, penOf c i10 v10 t110 t210 e)]) (fun q hq => by rw [List.mem_singleton.mp hq]; exact N11' (p, penOf c i10 v10 t110 t210 e) (by walk_at "IN")) (fun b o hb9 e => k12 b o (by simpa using hb9) e)
      have N12 := pen_step N11' hflp hcp' hrp2 k12 p12
      clear F11 N11 N11'
      walk_at "M"
      refine (show CEnd _ _ _ _ _ _ _ _ _ _ _ _ _ _ from mkCEnd (news' := (fl, listOf items.toArray ef) :: (L + 1, oc) :: (p, penOf c i12 v12 t112 t212 e) :: (wo ++ [(I, oI)])) F12 N12 ?_ (fun q hq => nomatch hq) (fun GG kk => kk i12 v12 t112 t212 (zs ++ [1 + d12]) rfl (IntsAre.append hys (IntsAre.cons _ _ IntsAre.nil)) (by simp [hyl]) i120 (by omega) v120))
      intro q hq
      simp only [List.mem_cons] at hq hn2
      rcases hq with rfl | rfl | rfl | hq
      · exact hn2 _ (.inl rfl)
      · exact hn2 _ (.inr (.inl rfl))
      · exact hpn
      · exact hn2 _ (.inr (.inr (.inr hq)))
    · intro C D h13 tk13 ys0 e13 mc news₃ hJ hC hD hDC hnsC hn F13 N13
      refine hJ _ ?_
      clear hJ
      rintro i13 v13 t113 t213 zs rfl hys0 hyl0 i130 i13le v130
      refine fin_none hC F9 hDC hnsC hn F13 N13 (fun h14 F14 N14 => ?_)
      clear F9 N9 F13 N13
      walk_at "M"
      refine kde_tupleOf F14 (news_rot N14) (isList_of (news_rot N14 _ (List.Mem.head _)).1) (by simp; omega) rfl (fun wa h15 F15 N15 hlt15 => ?_)
      rw [List.toList_toArray] at N15
      have hwI : wa ≠ I := Nat.ne_of_gt (hlt15 (I, oI) (by walk_at "IN"))
      clear F14 N14
      walk_at "M"
      rename_i h16 F16 N16
      refine comp_E [] rfl rfl (by decide) ?_
      walk_at "M"
      have lfl : h16.get? fl = some (listOf items.toArray ef) := (N16 (fl, listOf items.toArray ef) (by walk_at "IN")).1
      have hil : items.length ≤ 6 := by rw [hW.len]; exact bd6 ‹d < 6› hk hWk
      refine src_list (RR := fun acc C => compPost _ _ _ none _ acc C) ok.hh lfl (Nat.le_trans (m := 64) (by omega) (by decide)) (by decide) rfl F16 N16
        (fun k ys news => news = (wa, tupOf ys0.toArray 0) :: (D, listOf ys0.toArray e13) :: (fl, listOf items.toArray ef) :: (L + 1, oc) :: (p, penOf c i13 v13 t113 t213 e) :: (wo ++ [(I, oI)]) ∧ ys.length = k ∧
          (∀ y ∈ ys, ∃ wy vy n2 zy, y = .ref wy ∧ (wy, tupOf (vy : List Value).toArray n2) ∈ wo ∧ IntsAre vy zy)) ?_ ?_ ?_
      · exact ⟨rfl, rfl, by simp⟩
      · intro C I2 D2 j y ys e2 mc news₂ h17 tk17 oI2 oL hy hJ hC hI2 hD2 hDC2 hn2 hl17 F17 N17
        obtain ⟨rfl, hyl2, hys2⟩ := hJ
        obtain ⟨x, hx, pp, wy, vy, tkl, n1, n2, rfl, hpp, hwy, hiy⟩ := hW.word j y hy
        have hppN := N17 (pp, tupOf #[.ref wy, .int x.2 tkl] n1) (by have h90 : (pp, tupOf #[.ref wy, .int x.2 tkl] n1) ∈ wo := hpp; walk_at "IN")
        refine assign_pair (env := compEnvC _ _ C _) ok.hh hppN.1 rfl rfl rfl F17 N17 (fun h18 tk18 F18 N18 k18 => ?_)
        clear F16 N16 F17 N17
        refine tests_nil ?_
        rw [if_pos rfl]
        refine comp_name (env := compEnvC _ _ C _) rfl rfl F18 rfl (by decide) ?_
        refine (show CEnd _ _ _ _ _ _ _ _ _ _ _ _ _ _ from ⟨h18, _, _, (wa, tupOf ys0.toArray 0) :: (D, listOf ys0.toArray e13) :: (fl, listOf items.toArray ef) :: (L + 1, oc) :: (p, penOf c i13 v13 t113 t213 e) :: (wo ++ [(I, oI)]), rfl, F18, N18, hn2, ?_, rfl, by simp [hyl2], ?_⟩)
        · intro q hq
          rw [List.mem_singleton.mp hq]
          exact (N18 (fl, listOf items.toArray ef) (by walk_at "IN")).1
        · intro y hy
          rcases List.mem_append.mp hy with hy | hy
          · exact hys2 y hy
          · rw [List.mem_singleton.mp hy]
            exact ⟨wy, vy, n2, x.1, rfl, hwy, hiy⟩
      · intro C D2 h19 tk19 ys e19 mc news₃ hJ hC2 hD2 hDC2 hns2 hn2 F19 N19 _
        obtain ⟨rfl, hyl2, hys2⟩ := hJ
        refine fin_none hC2 F16 hDC2 hns2 hn2 F19 N19 (fun h20 F20 N20 => ?_)
        clear F16 N16 F19 N19
        have N20' := news_rot N20
        clear N20
        show wpAny _ _ (compareOp _ _ _) _ _ _
        refine notin_tuples (N20' (D2, listOf ys.toArray e19) (by walk_at "IN")).1 (N20' (wa, tupOf ys0.toArray 0) (by walk_at "IN")).1 hys0 ((Ok.deeper ok).in1.units) (fun y hy => ?_) (fun b hb1 => ?_)
        · obtain ⟨wy, vy, n2, zy, e1, hm, hz⟩ := hys2 y hy
          exact ⟨wy, vy, n2, zy, e1, (N20' (wy, tupOf vy.toArray n2) (by walk_at "IN")).1, hz⟩
        have hb2 : b = false → 1 ≤ W.length := fun e => by
          have := hb1 e
          rw [← hW.len, ← hyl2]
          exact List.length_pos_iff.mpr this
        clear hb1
        have hI1 : fl ≠ I := hnI (fl, listOf items.toArray ef) (by walk_at "IN")
        have hI2 : L + 1 ≠ I := hnI (L + 1, oc) (by walk_at "IN")
        have hI3 : p ≠ I := hnI (p, penOf c i6 v6 t16 t26 e) (by walk_at "IN")
        have hI4 : ∀ q ∈ wo, q.1 ≠ I := fun q hq => hnI q (by walk_at "IN")
        have N21 : News g L h20 ((fl, listOf items.toArray ef) :: (L + 1, oc) :: (p, penOf c i13 v13 t113 t213 e) :: ((wa, tupOf ys0.toArray 0) :: (wo ++ [(I, oI)]))) := news_sub N20' (by walk_at "SUB")
        clear N20'
        cases b with
        | false =>
          walk_at "M"
          refine (show TurnEnd _ _ _ _ _ _ _ _ from mkTurn (news' := (fl, listOf items.toArray ef) :: (L + 1, oc) :: (p, penOf c i13 v13 t113 t213 e) :: wo) F20 (news_sub N21 (fun q hq => ?_)) ?_ (fun q hq => nomatch hq) (fun GG kk => kk items ef W wo i13 v13 t113 t213 _ _ rfl hW (by omega) (fun _ => hb2 rfl) hW4 hW10 i130 (bd8 (bd7 i6le ‹i8 ≤ i6 + 1› ‹d8 < 4› i13le)) v130 hwo (m_shape _ _ _ _ _ _ _)))
          · (revert q; walk_at "SUB")
          · intro q hq
            simp only [List.mem_cons] at hq
            rcases hq with rfl | rfl | rfl | hq
            · exact hI1
            · exact hI2
            · exact hI3
            · exact hI4 q hq
        | true =>
          walk_at "M"
          have hrp3 : ∀ q ∈ (wa, tupOf ys0.toArray 0) :: (wo ++ [(I, oI)]), @Ne Nat q.1 p := fun q hq => by
            rcases List.mem_cons.mp hq with rfl | hq
            · exact apart_of (N21 (wa, tupOf ys0.toArray 0) (by walk_at "IN")).1 (N21 (p, penOf c i13 v13 t113 t213 e) (by walk_at "IN")).1 (by simp)
            · exact hrp q hq
          refine draw_spec (h₀ := g) ((Ok.deeper ok).mono (by decide)) G' F20.keep (N21 (p, penOf c i13 v13 t113 t213 e) (by walk_at "IN")).1 (N21 (p, penOf c i13 v13 t113 t213 e) (by walk_at "IN")).2.2 (F20.keep _ _ hcg) hcp hi hns hns1 i130 (bd3 i6b ‹i8 ≤ i6 + 1› ‹d8 < 4› i13le) v130 (by decide) (by decide) (fun d22 i22 v22 td22 t122 t222 h22 tk22 d220 d224 i220 i22le v220 k22 p22 => ?_)
          have F22 := fr_call F20 (fp := [(p, penOf c i13 v13 t113 t213 e)]) (fun q hq => by rw [List.mem_singleton.mp hq]; exact N21 (p, penOf c i13 v13 t113 t213 e) (by walk_at "IN")) (fun b o hb9 e => k22 b o (by simpa using hb9) e)
          have N22 := pen_step N21 hflp hcp' hrp3 k22 p22
          clear F20 N21
          walk_at "M"
          rename_i T9 h23 F23 N23 l23
          have hwfl : @Ne Nat wa fl := apart_of (N23 (wa, tupOf ys0.toArray 0) (by walk_at "IN")).1 (N23 (fl, listOf items.toArray ef) (by walk_at "IN")).1 (by simp)
          have hwofl : ∀ q ∈ wo, @Ne Nat q.1 fl := fun q hq => apart_of (N23 q (by walk_at "IN")).1 (N23 (fl, listOf items.toArray ef) (by walk_at "IN")).1 (by rw [hwo q hq]; simp)
          refine append_at (N23 (fl, listOf items.toArray ef) (by walk_at "IN")).1 (fun h24 s24 l24 => ?_) (by rw [List.size_toArray]; exact Nat.le_trans (m := 64) (by omega) (by decide))
          rw [List.push_toArray] at l24
          have F24 := F23.change s24 (N23 (fl, listOf items.toArray ef) (by walk_at "IN")).2.1 (N23 (fl, listOf items.toArray ef) (by walk_at "IN")).2.2
          have N24 := news_pen (old := listOf items.toArray ef) (l' := (fl, listOf (items ++ [Value.ref T9]).toArray (ef + 1)) :: (L + 1, oc) :: (p, penOf c i22 v22 t122 t222 e) :: (((T9, tupOf #[Value.ref wa, Value.int (10 + d22) tk22] 0) :: (wa, tupOf ys0.toArray 0) :: wo) ++ [(I, oI)])) N23 (by simp)
            (fun b o hb e => (s24.2 b hb).trans e) l24 (fun q hq => by
              simp only [List.cons_append, List.mem_cons, List.mem_append, List.not_mem_nil, or_false] at hq
              rcases hq with rfl | rfl | rfl | rfl | rfl | hq | rfl
              · exact .inl rfl
              · exact .inr ⟨by simp, Nat.ne_of_lt (by omega)⟩
              · exact .inr ⟨by simp, fun z => hflp z.symm⟩
              · exact .inr ⟨by simp, Nat.ne_of_gt l23.1⟩
              · exact .inr ⟨by simp, hwfl⟩
              · exact .inr ⟨by simp [hq], hwofl q hq⟩
              · exact .inr ⟨by simp, fun z => hI1 z.symm⟩)
          have hTI : T9 ≠ I := fun z => by
            have := (N23 (I, oI) (by walk_at "IN")).1
            have l := l23.2.2.2.2
            exact absurd (allLt_mem l (I, oI) (by simp)) (by rw [z]; exact Nat.lt_irrefl _)
          clear F23 N23
          walk_at "M"
          refine (show TurnEnd _ _ _ _ _ _ _ _ from mkTurn (news' := (fl, listOf (items ++ [Value.ref T9]).toArray (ef + 1)) :: (L + 1, oc) :: (p, penOf c i22 v22 t122 t222 e) :: ((T9, tupOf #[Value.ref wa, Value.int (10 + d22) tk22] 0) :: (wa, tupOf ys0.toArray 0) :: wo)) F24 N24 ?_ (fun q hq => nomatch hq) (fun GG kk => kk (items ++ [.ref T9]) (ef + 1) (W ++ [(zs, 10 + d22)]) _ i22 v22 t122 t222 _ _ rfl ?_ (by simp; omega) (by simp) ?_ ?_ i220 (bd9 (bd7 i6le ‹i8 ≤ i6 + 1› ‹d8 < 4› i13le) ‹i22 ≤ i13 + 1›) v220 ?_ (m_shape _ _ _ _ _ _ _)))
          · intro q hq
            simp only [List.mem_cons] at hq
            rcases hq with rfl | rfl | rfl | rfl | rfl | hq
            · exact hI1
            · exact hI2
            · exact hI3
            · exact hTI
            · exact hwI
            · exact hI4 q hq
          · exact (hW.mono fun a o hm => List.mem_cons_of_mem _ (List.mem_cons_of_mem _ hm)).snoc ⟨T9, wa, ys0, tk22, 0, 0, rfl, List.Mem.head _, List.mem_cons_of_mem _ (List.Mem.head _), hys0⟩
          · intro x hx
            rcases List.mem_append.mp hx with hx | hx
            · exact hW4 x hx
            · rw [List.mem_singleton.mp hx]
              have := hys0.length
              dsimp only
              omega
          · intro x hx
            rcases List.mem_append.mp hx with hx | hx
            · exact hW10 x hx
            · rw [List.mem_singleton.mp hx]
              dsimp only
              omega
          · intro q hq
            simp only [List.mem_cons] at hq
            rcases hq with rfl | rfl | hq
            · rfl
            · rfl
            · exact hwo q hq
  · intro h30 tk30 m30 news30 hJ F30 N30
    refine hJ _ ?_
    clear hJ
    rintro items ef W wo i6 v6 t16 t26 u1 u2 rfl hW hWk hWp hW4 hW10 i60 i6le v60 hwo rfl
    have snew : ∀ b, g.get? b = none → @Ne Nat b p → s.heap.get? b = none := by
      intro b e n1
      cases q : s.heap.get? b with
      | none => rfl
      | some o =>
        have := hb b o q (by simpa using n1)
        rw [e] at this; cases this
    have np : ∀ q ∈ wo, @Ne Nat q.1 p := fun q hq => apart_of (N30 q (by walk_at "IN")).1 (N30 (p, penOf c i6 v6 t16 t26 e) (by walk_at "IN")).1 (by rw [hwo q hq]; simp)
    walk_at "FOLD"
    walk_at "M"
    refine h fl ef items W wo i6 v6 t16 t26 h30 _ (N30 (fl, listOf items.toArray ef) (by walk_at "IN")).1 (fun q hq => ⟨(N30 q (by walk_at "IN")).1, snew _ (N30 q (by walk_at "IN")).2.2 (np q hq)⟩) (snew _ (N30 (fl, listOf items.toArray ef) (by walk_at "IN")).2.2 (by omega))
      (fun q hq => apart_of (N30 q (by walk_at "IN")).1 (N30 (fl, listOf items.toArray ef) (by walk_at "IN")).1 (by rw [hwo q hq]; simp)) hW (hWp (bd12 ‹0 ≤ d›)) (bd11 ‹d < 6› hWk) hW4 hW10 i60 (bd10 ‹d < 6› i6le) v60 (fun b o n1 e1 => F30.keep b o (hb b o e1 (by simpa using n1))) (N30 (p, penOf c i6 v6 t16 t26 e) (by walk_at "IN")).1
end Mine

open PySem PySem.W PySem.Calls PyProof.Rows
set_option Elab.async false
set_option maxRecDepth 100000
namespace Mine
theorem freshKeysMiss : True := by w_top off; trivial
theorem keys_of_list : typeLookup (.type "list") "keys" = pure none := by rw [typeLookup_type, builtinLookup_eq_fast]; kernel_rfl

theorem getAttr?_keys {prog : Program} {w : World} {A : Around} {E : Value → Shared → Prop} {s : Shared} {a : Addr} {xs : Array Value} {k : Nat} {Q : Option Value → Shared → Prop}
    (hx : s.heap.get? a = some (listOf xs k)) (hA : A.handled = none) (h : ∀ h' tk, s.heap.StaysIn h' → Q none { s with heap := h', toks := tk }) :
    wpAny (model prog w) A (getAttr? (.ref a) "keys") Q E s := by
  obtain ⟨hp, g, d, tk, os⟩ := s
  have hT : ∀ tk', (⟨hp, g, d, tk', os⟩ : Shared).TypeIs (.ref a) "list" := fun _ => ⟨_, hx, rfl⟩
  have f1 := sub_AttributeError
  have f3 := F.slot_list_getattribute.lookup
  have f4 := F.slot_list_getattribute.bind (.ref a)
  have f5 := am_list_getattr_none
  unfold getAttr? getAttrBy? getAttrBy
  repeat (any_goals (first | assumption | exact hT _ | ((with_reducible show wpAny _ _ (call (Value.builtin "list.__getattribute__") _ _) _ _ _); refine call_meets F.slot_list_getattribute (hT _) am_entry_list_getattribute (F.args_list_getattribute_2 _ _) (meets_getattribute_miss_list a xs k #[] "keys" _ keys_of_list (by decide +kernel)) ⟨hx, hA, fun h' tk' e hx' => ?_⟩) | wp_step))
  obtain ⟨t', u', he⟩ := hx'.there
  show wpAny _ _ (getattributeRaised _ _ _ _ _ _ _) _ _ _
  unfold getattributeRaised
  repeat (any_goals (first | assumption | wp_step))
  exact h _ _ hx'.of.keeps
end Mine

open PySem PySem.W PySem.Calls PyProof.Rows
set_option Elab.async false
set_option maxRecDepth 100000
namespace Mine
theorem freshDictPairs : True := by w_top off; trivial
theorem entry_dict_loop : entryFor table "dict.update.loop" = some Builtin.«dict.update.loop» := entryFor_of_tree (by kernel_rfl)
theorem plain_dict_loop : plainId "dict.update.loop" = true := by decide +kernel

/-- what the dict of the words holds -/
def DictP (xs : List (List Int × Addr × Value)) (Ev : List Int → Option Int) : Prop := ∀ ks, (Ev ks = none → atKey xs ks = none) ∧ ∀ l, Ev ks = some l → ∃ a t, atKey xs ks = some (a, .int l t)

theorem atKey_cons {K : Type} [DecidableEq K] (x : K × Addr × Value) (xs : List (K × Addr × Value)) (k : K) : atKey (x :: xs) k = if x.1 = k then some x.2 else atKey xs k := by
  unfold atKey
  rw [List.find?_cons]
  by_cases h : x.1 = k
  · simp [h]
  · simp [h]
theorem atKey_putAt {K : Type} [DecidableEq K] (k : K) (v : Value) (k' : K) : ∀ xs : List (K × Addr × Value), atKey (xs.map (putAt k v)) k' = if k' = k then (atKey xs k').map (fun p => (p.1, v)) else atKey xs k'
  | [] => by simp [atKey]
  | x :: xs => by
    rw [List.map_cons, atKey_cons, atKey_cons, atKey_putAt k v k' xs]
    have e : (putAt k v x).1 = x.1 := by unfold putAt; split <;> rfl
    rw [e]
    by_cases h1 : x.1 = k'
    · rw [if_pos h1, if_pos h1]
      by_cases h2 : k' = k
      · rw [if_pos h2]; simp [putAt, h1, h2]
      · rw [if_neg h2]; simp [putAt, h1, h2]
    · rw [if_neg h1, if_neg h1]
theorem atKey_snoc {K : Type} [DecidableEq K] (k : K) (p : Addr × Value) (k' : K) : ∀ xs : List (K × Addr × Value), atKey (xs ++ [(k, p)]) k' = match atKey xs k' with | some q => some q | none => if k' = k then some p else none
  | [] => by
    rw [List.nil_append, atKey_cons]
    by_cases h : k = k'
    · simp [h, atKey]
    · simp [h, atKey, Ne.symm h]
  | x :: xs => by
    rw [List.cons_append, atKey_cons, atKey_cons, atKey_snoc k p k' xs]
    by_cases h : x.1 = k'
    · simp [h]
    · simp [h]
theorem atKey_stored {K : Type} [DecidableEq K] (xs : List (K × Addr × Value)) (k : K) (a : Addr) (v : Value) (k' : K) : (k' ≠ k → atKey (storedH xs k a v) k' = atKey xs k') ∧ ∃ b, atKey (storedH xs k a v) k = some (b, v) := by
  cases h : atKey xs k with
  | none =>
    rw [storedH_new h]
    refine ⟨fun hne => ?_, a, ?_⟩
    · rw [atKey_snoc]; cases atKey xs k' <;> simp [hne]
    · rw [atKey_snoc, h]; simp
  | some p =>
    rw [storedH_old h]
    refine ⟨fun hne => ?_, p.1, ?_⟩
    · rw [atKey_putAt, if_neg hne]
    · rw [atKey_putAt, if_pos rfl, h]; rfl
theorem stored_len {K : Type} [DecidableEq K] (xs : List (K × Addr × Value)) (k : K) (a : Addr) (v : Value) : (storedH xs k a v).length ≤ xs.length + 1 := by
  unfold storedH; split <;> simp
theorem DictP.stored {xs : List (List Int × Addr × Value)} {Ev : List Int → Option Int} (h : DictP xs Ev) (k : List Int) (a : Addr) (l : Int) (t : Tok) : DictP (storedH xs k a (.int l t)) (fun x => if x = k then some l else Ev x) := fun ks => by
  obtain ⟨h1, b, h2⟩ := atKey_stored xs k a (.int l t) ks
  by_cases e : ks = k
  · subst e
    simp only [if_pos]
    exact ⟨fun z => (by cases z), fun l' z => ⟨b, t, by rw [h2, Option.some.inj z]⟩⟩
  · simp only [if_neg e]
    rw [h1 e]
    exact h ks

theorem ints_key {prog : Program} {w : World} : ∀ {vs : List Value} {ns : List Int}, IntsAre vs ns → PySem.ItemsAre (intKind prog w) ns vs
  | _, _, .nil => .nil
  | _, _, .cons n t r => .cons (intKind_is _ _ _ _) (ints_key r)
theorem tup_key {prog : Program} {w : World} {h : Heap} {a : Addr} {vs : List Value} {n : Nat} {ns : List Int} (e : h.get? a = some (tupOf vs.toArray n)) (hi : IntsAre vs ns) : (tupleKind (intKind prog w)).is h ns a := ⟨_, _, _, e, rfl, rfl, by simpa using ints_key hi⟩

section
variable {prog : Program} {w : World} {A : Around} {E : Value → Shared → Prop} {R : Result → Shared → Prop} {H0 K0 : Heap} {d I wl : Addr} {ew : Nat} {items : List Value} {W : List (List Int × Int)}
theorem dict_loop (st0 : K0.StaysIn H0) (hh : A.handled = none) (hu : A.units + 2 < cLine) (hd0 : H0.get? d = none) (hI0 : H0.get? I = none) (hdI : d ≠ I) (hwl : H0.get? wl = some (listOf items.toArray ew)) (hW : WordsIn (AtHeap K0) items W) (hn : W.length ≤ 6) :
    ∀ (k i : Nat) (s : Shared) (xs : List (List Int × Addr × Value)), items.length - i = k → i ≤ items.length → s.heap.IsListIter I wl i → H0.StaysIn s.heap → s.heap.DictOfH (tupleKind (intKind prog w)) d xs → DictP xs (EvOf (W.take i)) → xs.length ≤ i → (∀ x ∈ xs, (tupleKind (intKind prog w)).is K0 x.1 x.2.1) →
      (∀ h' tk xs', (∀ x ∈ xs', (tupleKind (intKind prog w)).is K0 x.1 x.2.1) → H0.StaysIn h' → h'.DictOfH (tupleKind (intKind prog w)) d xs' → DictP xs' (EvOf W) → R (.ok (.ret .none)) { s with heap := h', toks := tk }) →
      codeAny (model prog w) A (.builtin "dict.update.loop" ⟨[.ref d, .ref I, rawInt i, .none], []⟩) R s := by
  have hin : ∀ {h : Heap}, H0.StaysIn h → WordsIn (AtHeap h) items W := fun k => hW.mono fun a o e => k _ _ (st0 _ _ e)
  intro k
  induction k with
  | zero =>
    intro i s xs hk hi hit st hd hD hx hK hR
    have hin : i = items.length := by omega
    subst hin
    refine codeAny_builtin entry_dict_loop ?_
    rw [Around.under_plainId plain_dict_loop _]
    show wpAny _ A.in1 (pyNext (.ref I) >>= _) _ _ s
    refine wpAny_bind (wpAny_pyNext_list_end (items := items.toArray) hh hit (isList_of (st _ _ hwl)) (by simp) fun h' hx' => ?_)
    show wpAny _ A.in1 (ret Value.none) _ _ _
    refine wpAny_pure (hR h' _ xs hK (fun b o e => hx' b o (fun q => by rw [q, hI0] at e; cases e) (st b o e)) ?_ (by rwa [hW.len, List.take_length] at hD))
    obtain ⟨o, es, ep, ho, hc, hd, he, his, hnd⟩ := hd
    exact ⟨o, es, ep, hx' d o hdI ho, hc, hd, he, fun x hx => by
      obtain ⟨o2, it2, n2, e1, e2, e3, e4⟩ := his x hx
      refine ⟨o2, it2, n2, hx' _ _ (fun q => ?_) e1, e2, e3, e4⟩
      obtain ⟨oI, hoI, hcI, _⟩ := hit
      rw [q, hoI] at e1; rw [Option.some.inj e1, e2] at hcI; simp at hcI, hnd⟩
  | succ k ih =>
    intro i s xs hk hi hit st hd hD hx hK hR
    have hlt : i < items.length := by omega
    refine codeAny_builtin entry_dict_loop ?_
    rw [Around.under_plainId plain_dict_loop _]
    show wpAny _ A.in1 (pyNext (.ref I) >>= _) _ _ s
    obtain ⟨x, hx1, p, wa, vs, tk, n1, n2, hv, hp, hwa, hi'⟩ := hW.word i items[i] (List.getElem?_eq_getElem hlt)
    refine wpAny_bind (wpAny_pyNext_list_item (items := items.toArray) (x := .ref p) hit (isList_of (st _ _ hwl)) (by simp [hlt, hv]) fun h' hit' hs => ?_)
    have st' : H0.StaysIn h' := fun b o e => hs.extBut b o (fun q => by rw [q, hI0] at e; cases e) (st b o e)
    have hd' : h'.DictOfH (tupleKind (intKind prog w)) d xs := by
      obtain ⟨o, es, ep, ho, hc, hd, he, his, hnd⟩ := hd
      refine ⟨o, es, ep, hs.extBut d o hdI ho, hc, hd, he, fun x hx => ?_, hnd⟩
      obtain ⟨o2, it2, n2, e1, e2, e3, e4⟩ := his x hx
      refine ⟨o2, it2, n2, hs.extBut _ _ (fun q => ?_) e1, e2, e3, e4⟩
      obtain ⟨oI, hoI, hcI, _⟩ := hit
      rw [q, hoI] at e1; rw [Option.some.inj e1, e2] at hcI; simp at hcI
    show wpAny _ A.in1 (holding [Value.ref p] _ >>= _) _ _ _
    refine wpAny_bind (wpAny_holding (wpAny_bind (wpAny_tryCatch ?_)))
    show wpAny _ A.in1 (Builtin.Dict.pairItems (.ref p)) _ _ _
    unfold Builtin.Dict.pairItems
    have hpt : ({ s with heap := h' } : Shared).TypeIs (.ref p) "tuple" := ⟨_, st' _ _ (st0 _ _ hp), rfl⟩
    refine wpAny_bind (wpAny_typeOf hpt ?_)
    rw [if_pos (by decide)]
    refine wpAny_bind (wpAny_seqItems (st' _ _ (st0 _ _ hp)) rfl (wpAny_pure ?_))
    show wpAny _ A.in1 (holding [Value.ref wa, Value.int x.2 tk] (dictSet d (.ref wa) (.int x.2 tk))) _ _ _
    refine wpAny_holding (wpAny_dictSet_heap (knd := tupleKind (intKind prog w)) (k := x.1) (show A.in1.units < cLine by simp only [Around.in1_units]; omega) (tup_key (st' _ _ (st0 _ _ hwa)) hi') hd' (fun h2 hd2 hs2 => ?_) (Nat.le_trans (m := 64) (by have := hW.len; omega) (by decide)))
    have eEv : EvOf (W.take (i + 1)) = fun y => if y = x.1 then some x.2 else EvOf (W.take i) y := by
      rw [List.take_add_one, hx1]; exact EvOf_snoc _ _
    have hIh2 : h2.IsListIter I wl (i + 1) := by
      obtain ⟨oI, hoI, r⟩ := hit'
      exact ⟨oI, hs2.extBut _ _ (Ne.symm hdI) hoI, r⟩
    refine wpAny_pure ⟨plainId_quiet plain_dict_loop _, ih (i + 1) _ _ (by omega) hlt hIh2 (fun b o e => hs2.extBut b o (fun q => by rw [q, hd0] at e; cases e) (st' b o e)) hd2 (by rw [eEv]; exact hD.stored _ _ _ _) (Nat.le_trans (stored_len _ _ _ _) (by omega)) (fun y hy => ?_) fun h3 tk3 xs3 hK3 st3 hd3 hD3 => hR h3 tk3 xs3 hK3 st3 hd3 hD3⟩
    rcases mem_storedH hy with ⟨z, hz, e1, e2⟩ | ⟨e1, e2⟩
    · rw [e1, e2]; exact hK z hz
    · rw [e1, e2]; exact tup_key hwa hi'

theorem list_not_dict : (Value.type "list" != Value.type "dict") = true := by decide

theorem call_dict_pairs {s : Shared} {Q : Value → Shared → Prop} (hh : A.handled = none) (hu : A.units + 8 < cLine) (hlow : sysModules < s.heap.objs.size) (st0 : K0.StaysIn s.heap) (hwl0 : K0.get? wl = some (listOf items.toArray ew)) (hW : WordsIn (AtHeap K0) items W) (hn : W.length ≤ 6)
    (h : ∀ d h' tk xs od, s.heap.StaysIn h' → s.heap.objs.size ≤ d → (d == sysModules) = false → h'.get? d = some od → (∀ h'' : Heap, K0.StaysIn h'' → h''.get? d = some od → h''.DictOfH (tupleKind (intKind prog w)) d xs) → DictP xs (EvOf W) → Q (.ref d) { s with heap := h', toks := tk }) :
    wpAny (model prog w) A (call (.type "dict") [.ref wl]) Q E s := by
  have hwl : s.heap.get? wl = some (listOf items.toArray ew) := st0 _ _ hwl0
  refine callType_codes (Q₁ := fun obj s₁ => obj = .ref s.heap.objs.size ∧ s₁ = { s with heap := s.heap.push { cls := .type "dict", data := .dict #[] } }) F.kt_called_dict (F.kt_typeCall_dict_1 _) F.entry_dict_init (kt_code_dict_new _ ⟨rfl, rfl⟩) ?_
  rintro obj s₁ ⟨rfl, rfl⟩
  have hnew : (s.heap.push { cls := .type "dict", data := .dict #[] }).DictOfH (tupleKind (intKind prog w)) s.heap.objs.size [] := Heap.DictOfH.new s.heap
  have hwl' : (s.heap.push { cls := .type "dict", data := .dict #[] }).get? wl = some (listOf items.toArray ew) := Heap.get?_push_of_some _ hwl
  refine ⟨hnew.typeIs, F.args_dict_init_2 _ _, ?_⟩
  unfold Builtin.«dict.__init__»
  refine wpAny_bind ?_
  unfold Builtin.Dict.selfAndRest
  refine wpAny_bind (wpAny_notOrdered_dict hnew.typeIs ?_)
  show wpAny _ _ (pure (s.heap.objs.size, [Value.ref wl])) _ _ _
  refine wpAny_pure ?_
  show wpAny _ _ (Builtin.Dict.updateFrom "dict.__init__" s.heap.objs.size (.ref wl) [] .none) _ _ _
  unfold Builtin.Dict.updateFrom
  refine wpAny_bind (wpAny_typeOf (T := "list") ⟨_, hwl', rfl⟩ ?_)
  rw [if_pos list_not_dict]
  refine wpAny_bind (getAttr?_keys hwl' (by exact hh) fun h1 tk1 st1 => ?_)
  rw [if_pos (show (none : Option Value).isNone = true from rfl)]
  refine wpAny_bind (wpAny_rule ?_)
  refine wpAny_bind (wpAny_pyIter_list (isList_of (st1 _ _ hwl')) ?_)
  have base : ∀ b o, s.heap.get? b = some o → h1.get? b = some o := fun b o e => st1 b o (Heap.get?_push_of_some _ e)
  have hd0 : s.heap.get? s.heap.objs.size = none := none_of_size (Nat.le_refl _)
  have hI0 : s.heap.get? h1.objs.size = none := none_of_stays base (none_of_size (Nat.le_refl _))
  have hdd : h1.DictOfH (tupleKind (intKind prog w)) s.heap.objs.size [] := by
    obtain ⟨o, es, ep, ho, hc, hd, he, his, hnd⟩ := hnew
    exact ⟨o, es, ep, st1 _ _ ho, hc, hd, he, fun x hx => (by simp at hx), hnd⟩
  have hdI : s.heap.objs.size ≠ h1.objs.size := by
    obtain ⟨o, es, ep, ho, _⟩ := hdd
    exact Nat.ne_of_lt (Heap.lt_size ho)
  refine wpAny_pure ⟨plainId_quiet plain_dict_loop _, dict_loop (H0 := s.heap) st0 (by exact hh) (by simp only [Around.in1_units]; omega) hd0 hI0 hdI hwl hW hn _ 0 _ [] rfl (Nat.zero_le _) ⟨_, Heap.get?_push_size _ rfl, rfl, rfl⟩ (fun b o e => Heap.get?_push_of_some _ (base b o e)) ?_ ?_ (Nat.le_refl _) (fun x hx => (by simp at hx)) fun h' tk' xs hK st hd hD => ?_⟩
  · obtain ⟨o, es, ep, ho, hc, hd, he, his, hnd⟩ := hdd
    exact ⟨o, es, ep, Heap.get?_push_of_some _ ho, hc, hd, he, fun x hx => (by simp at hx), hnd⟩
  · intro ks
    exact ⟨fun _ => rfl, fun l e => by simp [EvOf] at e⟩
  · obtain ⟨o, es, ep, ho, hc, hd, he, his, hnd⟩ := hd
    refine ⟨rfl, h s.heap.objs.size h' tk' xs o st (Nat.le_refl _) (by simpa using Nat.ne_of_gt hlow) ho (fun h'' st'' e => ⟨o, es, ep, e, hc, hd, he, fun x hx => ?_, hnd⟩) hD⟩
    obtain ⟨o2, it2, n2, e1, e2⟩ := hK x hx
    exact ⟨o2, it2, n2, st'' _ _ e1, e2⟩
end
end Mine

open PySem PySem.W PySem.Calls PyProof.Rows
set_option Elab.async false
set_option maxRecDepth 100000
namespace Mine
theorem freshRun : True := by w_top off; trivial
local macro_rules | `(tactic| walk_at "IN") => `(tactic| first | (with_reducible assumption) | exact List.mem_cons_self | ((with_reducible refine List.mem_append_left _ ?_); walk_at "IN") | ((with_reducible refine List.mem_append_right _ ?_); walk_at "IN") | ((with_reducible refine List.mem_cons_of_mem _ ?_); walk_at "IN") | (simp; done))
local macro_rules | `(tactic| walk_at "SUB") => `(tactic| first | exact subNil | ((with_reducible refine subApp ?_ ?_) <;> walk_at "SUB") | (refine subCons ?_ ?_; (walk_at "IN"); walk_at "SUB") | (intro q hq; walk_at "IN"))
local macro_rules | `(tactic| walk_at "STOP") => `(tactic| ((fail_if_success (with_reducible show wpAny _ _ (exec (Stmt.For _ _ _ _ _) _) _ _ _)); (fail_if_success (with_reducible show wpAny _ _ (exec (Stmt.While _ _ _ _) _) _ _ _)); (fail_if_success (with_reducible show wpAny _ _ (PySem.call (Value.ref _) _ _) _ _ _)); (fail_if_success (with_reducible show wpAny _ _ (eval (Expr.ListComp _ _ _ _) _) _ _ _)); (fail_if_success (with_reducible show Exists _)); (fail_if_success (with_reducible show wpAny _ _ (subscriptTail _ _ (Value.ref _) (Value.ref _)) _ _ _)); (fail_if_success (with_reducible show wpAny _ _ (compareOp CmpOp.NotEq (Value.ref _) (Value.ref _)) _ _ _)); (fail_if_success (with_reducible show wpAny _ _ (compareOp CmpOp.In (Value.ref _) (Value.ref _)) _ _ _)); (fail_if_success (with_reducible show wpAny _ _ (PySem.call (Value.builtin "max") _) _ _ _)); (fail_if_success (with_reducible show wpAny _ _ (PySem.call (Value.type "dict") _) _ _ _)); (fail_if_success (with_reducible show wpAny _ _ (pyIter _) _ _ _)); (fail_if_success (with_reducible show CEnd _ _ _ _ _ _ _ _ _ _ _ _ _ _))))
local macro_rules | `(tactic| walk_at "NM") => `(tactic| ((with_reducible show wpAny _ _ (eval (Expr.Name _ _) (compEnvC _ _ _ _)) _ _ _); (with_reducible rename Fr _ _ _ _ => kF); refine comp_name rfl rfl kF rfl (by decide) ?_; (try dsimp only)))
local macro_rules | `(tactic| walk_at "M") => `(tactic| repeat' (first | (k_unfold; (try dsimp only)) | walk_at "NM" | (with_reducible refine wpAny_execs_nil ?_; try dsimp only) | (walk_at "STOP"; walk1 <;> (try dsimp only))))
local macro_rules | `(tactic| walk_at "ENTER") => `(tactic| ((case ho => k_is); (case hcd => k_is); (case hbind => exact BindsTo.of_eq rfl); (case hloc => exact locs rfl); (case hcell => decide); (case hco => rfl); (case hgen => rfl); (case hk => rfl)))
local macro_rules | `(tactic| walk_at "FOLD") => `(tactic| ((try dsimp only); (try (show wpAny _ _ _ _ _ _)); (try k_fold)))

def szs (Ev : List Int → Option Int) (ds : List Int) (k : Nat) : List Nat := ((List.range k).map (· + 1)).filter fun n => decide (n ≤ ds.length) && (Ev (ds.take n)).isSome

theorem same_shape (a : Str) (A B : Option Value) (m : Str → Option Value) : (fun z => if z = a then A else if z = a then B else m z) = fun z => if z = a then A else m z := by
  funext z
  by_cases h : z = a
  · rw [if_pos h, if_pos h]
  · rw [if_neg h, if_neg h, if_neg h]

theorem EvOf_mem {W : List (List Int × Int)} {x : List Int} {l : Int} (h : EvOf W x = some l) : ∃ p ∈ W, p.1 = x ∧ p.2 = l := by
  have : ∀ (W : List (List Int × Int)) (E : List Int → Option Int), W.foldl (fun E p y => if y = p.1 then some p.2 else E y) E x = some l → (∃ p ∈ W, p.1 = x ∧ p.2 = l) ∨ E x = some l := by
    intro W
    induction W with
    | nil => exact fun E h => .inr h
    | cons q W ih =>
      intro E h
      rcases ih _ h with ⟨p, hp, e⟩ | h
      · exact .inl ⟨p, List.mem_cons_of_mem _ hp, e⟩
      · by_cases e : x = q.1
        · simp only [if_pos e] at h
          exact .inl ⟨q, List.Mem.head _, e.symm, Option.some.inj h⟩
        · simp only [if_neg e] at h
          exact .inr h
  rcases this W _ h with h | h
  · exact h
  · cases h

theorem szs_mem (Ev : List Int → Option Int) (ds : List Int) (n : Nat) : n ∈ szs Ev ds 4 ↔ 1 ≤ n ∧ n ≤ 4 ∧ n ≤ ds.length ∧ (Ev (ds.take n)).isSome = true := by
  unfold szs
  rw [List.mem_filter, List.mem_map, Bool.and_eq_true]
  constructor
  · rintro ⟨⟨k, hk, rfl⟩, h2⟩
    have := List.mem_range.mp hk
    exact ⟨by omega, by omega, of_decide_eq_true h2.1, h2.2⟩
  · rintro ⟨a, b, c, e⟩
    exact ⟨⟨n - 1, List.mem_range.mpr (by omega), by omega⟩, decide_eq_true c, e⟩

theorem ev_len {W : List (List Int × Int)} (h4 : ∀ p ∈ W, 1 ≤ p.1.length ∧ p.1.length ≤ 4) {ds : List Int} {k : Nat} (hk : k ≤ ds.length) (h : (EvOf W (ds.take k)).isSome = true) (h1 : 1 ≤ k) : k ∈ szs (EvOf W) ds 4 := by
  obtain ⟨l, hl⟩ := Option.isSome_iff_exists.mp h
  obtain ⟨p, hp, e, _⟩ := EvOf_mem hl
  have := (h4 p hp).2
  rw [e, List.length_take] at this
  exact (szs_mem _ _ _).mpr ⟨h1, by omega, hk, h⟩

theorem decide_word {W : List (List Int × Int)} (h4 : ∀ p ∈ W, 1 ≤ p.1.length ∧ p.1.length ≤ 4) (h10 : ∀ p ∈ W, 10 ≤ p.2) {ds : List Int} {n : Nat} {l : Int} (hn : n ∈ szs (EvOf W) ds 4) (hm : ∀ k ∈ szs (EvOf W) ds 4, k ≤ n) (hl : EvOf W (ds.take n) = some l) : DecideP (EvOf W) ds n l := by
  obtain ⟨n1, n4, nl, _⟩ := (szs_mem _ _ _).mp hn
  obtain ⟨p, hp, _, e⟩ := EvOf_mem hl
  have := h10 p hp
  refine ⟨n, l, .inr ⟨n1, nl, hl, fun k hk hkl => ?_⟩, .inr ⟨by omega, rfl, rfl⟩⟩
  cases e2 : EvOf W (ds.take k) with
  | none => rfl
  | some v => have := hm k (ev_len h4 hkl (by rw [e2]; rfl) (by omega)); omega

theorem decide_head {W : List (List Int × Int)} (h4 : ∀ p ∈ W, 1 ≤ p.1.length ∧ p.1.length ≤ 4) {ds : List Int} {l : Int} (hn : szs (EvOf W) ds 4 = []) (hl : ds.head? = some l) : DecideP (EvOf W) ds 1 l := by
  refine ⟨0, -1, .inl ⟨rfl, rfl, fun k h1 hkl => ?_⟩, .inl ⟨rfl, rfl, hl⟩⟩
  cases e2 : EvOf W (ds.take k) with
  | none => rfl
  | some v => have := ev_len h4 hkl (by rw [e2]; rfl) h1; rw [hn] at this; cases this

theorem rn1 (p j : Nat) : ((p : Int) + (1 + (j : Int))).toNat = p + (1 + j) := rfl
set_option maxHeartbeats 4000000 in
theorem run_spec {w : World} {A : Around} {s : Shared} {h₀ : Heap} {wl gl : Addr} {ew eg : Nat} {items vs : List Value} {W : List (List Int × Int)} {gs : List Int} {Q : Value → Shared → Prop} {E : Value → Shared → Prop}
    (ok : Ok 8 A) (G : Gc w h₀) (st : h₀.StaysIn s.heap) (hwl : s.heap.get? wl = some (listOf items.toArray ew)) (hW : WordsIn (AtHeap s.heap) items W) (hn : W.length ≤ 6) (hw4 : ∀ p ∈ W, 1 ≤ p.1.length ∧ p.1.length ≤ 4) (hw10 : ∀ p ∈ W, 10 ≤ p.2)
    (hgl : s.heap.get? gl = some (listOf vs.toArray eg)) (hi : IntsAre vs gs) (hlen : gs.length ≤ 100)
    (h : ∀ fl fvs ef out h' tk', h'.get? fl = some (listOf fvs.toArray ef) → IntsAre fvs out → Drain (fun _ => False) (EvOf W) gs out [] → s.heap.get? fl = none → s.heap.StaysIn h' → Q (.ref fl) { s with heap := h', toks := tk' }) :
    wpAny (model PySem.Challenge.rw_pb0154_01.row.prog w) A (call (.ref 143) [.ref wl, .ref gl]) Q E s := by
  have _fill : (PySem.Challenge.rw_pb0154_01 = PySem.Challenge.rw_pb0154_01 ∧ hd.heap_39 = hd.heap_39) := by (k_fill; exact ⟨rfl, rfl⟩)
  refine wpAny_call ?_
  refine' enterC (fp := []) (binds := [("words", .ref wl), ("glyphs", .ref gl)]) ok.room G st ?hN ?ho ?hcd ?hbind ?hkind ?hnd ?_ ?hco ?hgen ?hk
  case hN => exact fun p hp => nomatch hp
  case ho => k_is
  case hcd => k_is
  case hbind => exact BindsTo.of_eq rfl
  case hkind => exact fun n => kinds_of (by exact ⟨.inl rfl, .inr ⟨rfl, rfl⟩, trivial⟩)
  case hnd => decide +kernel
  case hco => rfl
  case hgen => rfl
  case hk => rfl
  intro g L h₁ tk1 cells G' st' hb F N Y hcn hlt
  have X := G'.X
  obtain ⟨mean, mg, mb, T⟩ := G'.T
  obtain ⟨o1, o2, o3, rfl, d1, d2, d3⟩ := CellsAre.three Y
  simp only [List.cons_append, List.nil_append] at N
  have sg : s.heap.StaysIn g := fun b o e => hb b o e (fun hm => nomatch hm)
  change Fr g L h₁ (fun y => if y = Str.ofString "words" then some (Value.ref wl) else none) at F
  replace d1 : o1.data = .cell none := d1
  replace d2 : o2.data = .cell none := d2
  replace d3 : o3.data = .cell (some (.ref gl)) := d3
  clear Y
  walk_at "FOLD"
  walk_at "M"
  have hlow : sysModules < h₁.objs.size := Nat.lt_of_lt_of_le (modules_low T.nolimit) (Nat.le_trans F.above (Nat.le_of_lt F.ns.lt))
  refine call_dict_pairs (K0 := g) ok.hh (by have := ok.un; simp only [units_deeper]; omega) hlow F.keep (sg _ _ hwl) (hW.mono sg) hn (fun (d : Addr) h2 tk2 xs od k2 hd0 hdm hod hdk hDP => ?_)
  have F2 := Fr.keeps F k2
  have N2 : News g L h2 [(d, od), (L + 1 + 1 + 1, o1), (L + 1 + 1, o2), (L + 1, o3)] := news_app (l := [(d, od)]) (news_new F fun p hp => by rw [List.mem_singleton.mp hp]; exact ⟨hod, none_of_size hd0⟩) (News.grown N k2)
  have l1 : @LT.lt Nat _ (L + 1 + 1 + 1) d ∧ @LT.lt Nat _ (L + 1 + 1) d ∧ @LT.lt Nat _ (L + 1) d := by
    have : @LT.lt Nat _ (L + 1 + 1 + 1) d := Nat.lt_of_lt_of_le (Heap.lt_size (N (L + 1 + 1 + 1, o1) (List.Mem.head _)).1) hd0
    exact ⟨this, Nat.lt_of_succ_lt this, Nat.lt_of_succ_lt (Nat.lt_of_succ_lt this)⟩
  clear F N k2
  walk_at "M"
  rename_i h3 o22 e2 fl h4 lf h5 tk5 h6 ot F6 N6 et
  have hgg : g.IsList gl vs.toArray := isList_of (sg _ _ hgl)
  have hvl := hi.length
  refine wpAny_While ?_
  refine codeAny_whileLoop (fun n s' => ∀ GG : Prop, (∀ (h' : Heap) (tk' p : Nat) (ot : Obj) (tt : Tok) (fvs : List Value) (ef : Nat) (out : List Int) (u : Option Value), s' = { s with heap := h', toks := tk' } → Fr g L h' (fun y => if y = Str.ofString "sizes" then u else if y = Str.ofString "found" then some (Value.ref fl) else if y = Str.ofString "words" then some (Value.ref wl) else none) → News g L h' [(fl, listOf fvs.toArray ef), (d, od), (L + 1 + 1 + 1, ot), (L + 1 + 1, o22), (L + 1, o3)] → ot.data = .cell (some (.int (p : Nat) tt)) → IntsAre fvs out → p ≤ gs.length → n = gs.length - p → out.length ≤ p → (∀ o, Drain (fun _ => False) (EvOf W) (gs.drop p) o [] → Drain (fun _ => False) (EvOf W) gs (out ++ o) []) → GG) → GG) ?_ gs.length
    (fun GG kk => kk h6 _ 0 ot tk5 [] 0 [] none rfl ?_ N6 et IntsAre.nil (Nat.zero_le _) (by omega) (Nat.zero_le _) (fun o h => by simpa using h))
  rotate_left
  · have : (fun y => if y = Str.ofString "found" then some (Value.ref fl) else if y = Str.ofString "words" then some (Value.ref wl) else none) = (fun y => if y = Str.ofString "sizes" then none else if y = Str.ofString "found" then some (Value.ref fl) else if y = Str.ofString "words" then some (Value.ref wl) else none) := by
      funext y
      by_cases e : y = Str.ofString "sizes"
      · subst e; rfl
      · rw [if_neg e]
    rw [this] at F6
    exact F6
  intro n s' hI9
  refine hI9 _ ?_
  clear hI9
  rintro h7 tk7 p ot tt fvs ef out u rfl F7 N7 et hf hp rfl hol hdr
  clear F6 N6
  walk_at "FOLD"
  walk_at "M"
  · have hpl : p < gs.length := by omega
    refine comp_A [(Str.ofString "held", L + 1 + 1), (Str.ofString "glyphs", L + 1), (Str.ofString "at", L + 1 + 1 + 1)] rfl rfl rfl (by decide) ?_
    walk_at "M"
    rename_i h8 tk8 tr1 tr2 tr3 hr F8 N8 k8
    refine src_range (n := 4) (RR := fun acc C => compPost _ _ _ (some _) _ acc C) ok.hh hr (by decide) (by decide) (Nat.le_trans (m := 64) (by omega) (by decide)) (by decide) rfl F8 N8
      (fun k ys news => news = [(fl, listOf fvs.toArray ef), (d, od), (L + 1 + 1 + 1, ot), (L + 1 + 1, o22), (L + 1, o3)] ∧ IntsAre ys ((szs (EvOf W) (gs.drop p) k).map fun n => ((n : Nat) : Int))) ?_ ?_ ?_
    · exact ⟨rfl, IntsAre.nil⟩
    · intro C I2 D j tj ys e2 mc news₂ h10 tk10 oI2 oL hj hJ hC hI2 hD hDC hn2 F10 N10
      -- A
      obtain ⟨rfl, hys⟩ := hJ
      refine assign_name (env := compEnvC _ _ C _) rfl rfl F10 N10 (fun h11 F11 N11 k11 => ?_)
      clear F8 N8 F10 N10
      refine tests_one ?_
      simp only [List.cons_append, List.nil_append] at N11
      have gi : g.get? gl = some (listOf vs.toArray eg) := sg _ _ hgl
      have eL : ∀ (h : Heap) (l : List (Addr × Obj)), News g C h (l ++ [(fl, listOf fvs.toArray ef), (d, od), (L + 1 + 1 + 1, ot), (L + 1 + 1, o22), (L + 1, o3), (I2, oI2), (D, listOf ys.toArray e2), (L, oL)]) →
          News g C h ([(fl, listOf fvs.toArray ef), (d, od), (L + 1 + 1 + 1, ot), (L + 1 + 1, o22), (L + 1, o3)] ++ [(I2, oI2), (D, listOf ys.toArray e2), (L, oL)]) := fun h l N => news_sub N fun q hq => List.mem_append_right _ hq
      have eS : szs (EvOf W) (gs.drop p) (j + 1) = szs (EvOf W) (gs.drop p) j ++ (if decide (j + 1 ≤ (gs.drop p).length) && (EvOf W ((gs.drop p).take (j + 1))).isSome then [j + 1] else []) := by
        unfold szs
        rw [List.range_succ, List.map_append, List.filter_append, List.map_cons, List.map_nil, List.filter_cons, List.filter_nil]
      have hdl : (gs.drop p).length = gs.length - p := List.length_drop
      walk_at "M"
      · rename_i hle
        rename Fr _ _ _ _ => F12
        refine kmk_slice_ints (s := { heap := _, gens := s.gens, drawn := s.drawn, toks := _, os := s.os }) F12 N11 (hgg.at fun o e => F12.keep _ o e) (.int _ _) (.int _ _) hi (kmk_run hi (by omega) (by omega)) rfl (fun Dn ws h13 F13 N13 ln hw he hle2 => ?_) (by with_unfolding_all rfl) (fun _ => by with_unfolding_all rfl) (by rw [List.size_toArray, hi.length, sizeLine_eq]; omega)
        have ews : (gs.drop (p : Int).toNat).take (min ((p : Int) + (1 + (j : Int))).toNat gs.length - (p : Int).toNat) = (gs.drop p).take (j + 1) := by
          rw [show ((p : Int)).toNat = p from rfl, show ((p : Int) + (1 + (j : Int))).toNat = p + (1 + j) from rn1 p j, Nat.min_eq_left (by omega)]
          congr 1
          first | exact (Nat.add_sub_cancel_left).trans (Nat.add_comm _ _) | omega
        rw [ews] at hw he
        clear F12 N11
        walk_at "M"
        rename_i T9 h14 F14 N14 k14
        have hat : (atKey xs ((gs.drop p).take (j + 1))).isSome = (EvOf W ((gs.drop p).take (j + 1))).isSome := by
          cases e : EvOf W ((gs.drop p).take (j + 1)) with
          | none => rw [(hDP _).1 e]; rfl
          | some l => obtain ⟨a, t, e2⟩ := (hDP _).2 l e; rw [e2]; rfl
        refine wpAny_in_heap (knd := tupleKind (intKind PySem.Challenge.rw_pb0154_01.row.prog w)) (k := (gs.drop p).take (j + 1)) (xs := xs) ((Ok.deeper ok).in1.units) (tup_key (N14 (T9, tupOf ws.toArray 0) (List.Mem.head _)).1 hw) hdm (hdk h14 F14.keep (N14 (d, od) (by walk_at "IN")).1) ?_
        rw [hat]
        have N15 := eL h14 [(T9, tupOf ws.toArray 0), (Dn, listOf ws.toArray 0)] N14
        have hlj : j + 1 ≤ (gs.drop p).length := by omega
        clear N14
        cases hE : (EvOf W ((gs.drop p).take (j + 1))).isSome with
        | true =>
          rw [hE, Bool.and_true, if_pos (decide_eq_true hlj)] at eS
          walk_at "M"
          rename Fr _ _ _ _ => F15
          refine (show CEnd _ _ _ _ _ _ _ _ _ _ _ _ _ _ from ⟨h14, _, _, _, rfl, F15, N15, hn2, (fun q hq => nomatch hq), rfl, ?_⟩)
          rw [eS, List.map_append, List.map_cons, List.map_nil, show ((j + 1 : Nat) : Int) = 1 + (j : Int) by omega]
          exact IntsAre.append hys (IntsAre.cons _ _ IntsAre.nil)
        | false =>
          rw [hE, Bool.and_false, if_neg (by decide), List.append_nil] at eS
          walk_at "M"
          exact (show CEnd _ _ _ _ _ _ _ _ _ _ _ _ _ _ from ⟨h14, _, _, _, rfl, F14, N15, hn2, (fun q hq => nomatch hq), rfl, by rw [eS]; exact hys⟩)
      · rename_i hle
        rename Fr _ _ _ _ => F12
        rw [decide_eq_false (by omega), Bool.false_and, if_neg (by decide), List.append_nil] at eS
        exact (show CEnd _ _ _ _ _ _ _ _ _ _ _ _ _ _ from ⟨h11, _, _, _, rfl, F12, eL h11 [] N11, hn2, (fun q hq => nomatch hq), rfl, by rw [eS]; exact hys⟩)
      -- B
    · intro C D h13 tk13 ys e13 mc news₃ hJ hC hD hDC hnsC hn F13 N13
      obtain ⟨rfl, hys⟩ := hJ
      refine fin_assign rfl rfl hC F8 hDC hnsC hn F13 N13 (fun h14 tk14 F14 N14 => ?_)
      simp only [List.cons_append, List.nil_append] at N14
      have nD : ∀ a o, h8.get? a = some o → @Ne Nat a D := fun a o e z => by
        have hD' : h8.get? D = none := hD
        rw [← z, e] at hD'; cases hD'
      have hFn : @Ne Nat fl D ∧ @Ne Nat d D ∧ @Ne Nat (L + 1 + 1 + 1) D ∧ @Ne Nat (L + 1 + 1) D ∧ @Ne Nat (L + 1) D := ⟨nD _ _ (N8 (fl, listOf fvs.toArray ef) (by walk_at "IN")).1, nD _ _ (N8 (d, od) (by walk_at "IN")).1, nD _ _ (N8 (L + 1 + 1 + 1, ot) (by walk_at "IN")).1, nD _ _ (N8 (L + 1 + 1, o22) (by walk_at "IN")).1, nD _ _ (N8 (L + 1, o3) (by walk_at "IN")).1⟩
      have hG1 : @Ne Nat D fl := fun z => hFn.1 z.symm
      have hG2 : @Ne Nat D d := fun z => hFn.2.1 z.symm
      have hG3 : @Ne Nat D (L + 1 + 1 + 1) := fun z => hFn.2.2.1 z.symm
      have hG4 : @Ne Nat D (L + 1 + 1) := fun z => hFn.2.2.2.1 z.symm
      have hG5 : @Ne Nat D (L + 1) := fun z => hFn.2.2.2.2 z.symm
      clear hFn
      clear F8 N8 F13 N13
      walk_at "M"
      rename_i l9 h15 F15 N15 l15
      refine ne_intsK (isList_of (N15 (D, listOf ys.toArray e13) (by walk_at "IN")).1) hys (isList_of (vs := ([] : List Value).toArray) (N15 (l9, listOf #[] 0) (by walk_at "IN")).1) IntsAre.nil (by have := ok.un; rw [units_deeper]; omega) ?_
      have hsz := fun n hn => (szs_mem (EvOf W) (gs.drop p) n).mp hn
      have hpos : gs.drop p ≠ [] := fun e => by have := congrArg List.length e; rw [List.length_drop] at this; simp at this; omega
      cases hb : (!decide ((szs (EvOf W) (gs.drop p) 4).map (fun n => ((n : Nat) : Int)) = [])) with
      | true =>
        walk_at "M"
        have hne : 0 < ((szs (EvOf W) (gs.drop p) 4).map (fun n => ((n : Nat) : Int))).length := by
          cases e : (szs (EvOf W) (gs.drop p) 4).map (fun n => ((n : Nat) : Int)) with
          | nil => rw [e] at hb; simp at hb
          | cons x r => simp
        refine kso_max F15 N15 (isList_of (N15 (D, listOf ys.toArray e13) (by walk_at "IN")).1) hys hne ok.hh (fun h16 M t16 tk16 F16 N16 hM hMx => ?_)
        obtain ⟨n, hn, rfl⟩ := List.mem_map.mp hM
        obtain ⟨n1, n4, nlen, nev⟩ := hsz n hn
        rw [List.length_drop] at nlen
        clear F15 N15
        walk_at "M"
        refine kmk_slice_ints (s := { heap := _, gens := s.gens, drawn := s.drawn, toks := _, os := s.os }) F16 N16 (hgg.at fun o e => F16.keep _ o e) (.int _ _) (.int _ _) hi (kmk_run hi (by omega) (by omega)) rfl (fun Dn ws h17 F17 N17 ln hw he hle2 => ?_) (by with_unfolding_all rfl) (fun _ => by with_unfolding_all rfl) (by rw [List.size_toArray, hi.length, sizeLine_eq]; omega)
        have ews : (gs.drop (p : Int).toNat).take (min ((p : Int) + (n : Int)).toNat gs.length - (p : Int).toNat) = (gs.drop p).take n := by
          rw [show ((p : Int)).toNat = p from rfl, show ((p : Int) + (n : Int)).toNat = p + n from rfl, Nat.min_eq_left (by omega)]
          congr 1
          first | exact Nat.add_sub_cancel_left | omega
        rw [ews] at hw he
        clear F16 N16
        walk_at "M"
        rename_i T9 h18 F18 N18 k18
        obtain ⟨lv, hlv⟩ := Option.isSome_iff_exists.mp nev
        obtain ⟨ka, kt, hat⟩ := (hDP _).2 lv hlv
        refine subscriptTail_builtin (s := { heap := h18, gens := s.gens, drawn := s.drawn, toks := _, os := s.os }) (hdk h18 F18.keep (N18 (d, od) (by walk_at "IN")).1).typeIs slot_dict_getitem.lookup (wpAny_getItem_heap (knd := tupleKind (intKind PySem.Challenge.rw_pb0154_01.row.prog w)) (k := (gs.drop p).take n) (xs := xs) ((Ok.deeper ok).in1.units) (tup_key (N18 (T9, tupOf ws.toArray 0) (List.Mem.head _)).1 hw) (hdk h18 F18.keep (N18 (d, od) (by walk_at "IN")).1) hat ?_) (by with_unfolding_all rfl) (fun _ => by with_unfolding_all rfl)
        have N19 : News g L h18 [(fl, listOf fvs.toArray ef), (d, od), (L + 1 + 1 + 1, ot), (L + 1 + 1, o22), (L + 1, o3), (D, listOf ys.toArray e13)] := news_sub N18 fun q hq => List.mem_cons_of_mem _ (List.mem_cons_of_mem _ (List.mem_cons_of_mem _ hq))
        clear N18
        walk_at "M"
        rename_i h20 tk20 l20 h21 F21 N21 ll
        refine ne_intsK (isList_of (N21 (D, listOf ys.toArray e13) (by walk_at "IN")).1) hys (isList_of (vs := ([] : List Value).toArray) (N21 (l20, listOf #[] 0) (by walk_at "IN")).1) IntsAre.nil (by have := ok.un; rw [units_deeper]; omega) ?_
        rw [hb]
        walk_at "M"
        refine kso_max F21 N21 (isList_of (N21 (D, listOf ys.toArray e13) (by walk_at "IN")).1) hys hne ok.hh (fun h22 M t22 tk22 F22 N22 hM' hMx' => ?_)
        have hMM : M = (n : Int) := Int.le_antisymm (hMx M hM') (hMx' _ hM)
        subst hMM
        clear F21 N21
        walk_at "M"
        rename_i h23 ot3 F23 N23 d23
        rw [same_shape] at F23
        rw [List.push_toArray] at N23
        have hdec := decide_word hw4 hw10 hn (fun k hk => by have := hMx _ (List.mem_map_of_mem hk); omega) hlv
        refine ⟨gs.length - (p + n), by omega, fun GG kk => kk h23 _ (p + n) ot3 tk22 (fvs ++ [Value.int lv kt]) (ef + 1) (out ++ [lv]) _ rfl F23 (news_sub N23 ?_) (by rw [d23]; simp) (IntsAre.append hf (IntsAre.cons _ _ IntsAre.nil)) (by omega) rfl (by simp; omega) (fun o ho => ?_)⟩
        · walk_at "SUB"
        · rw [List.append_assoc]
          exact hdr (lv :: o) (.step hpos (fun z => z) hdec (by rw [List.drop_drop]; exact ho))
      | false =>
        have hnil : szs (EvOf W) (gs.drop p) 4 = [] := by
          rw [Bool.not_eq_false', decide_eq_true_eq] at hb
          exact List.map_eq_nil_iff.mp hb
        have hhead : (gs.drop p).head? = some (gs.getD ((p : Int)).toNat 0) := by
          rw [List.head?_drop, show ((p : Int)).toNat = p from rfl, List.getD_eq_getElem?_getD, List.getElem?_eq_getElem hpl]
          rfl
        have hdec := decide_head hw4 hnil hhead
        walk_at "M"
        rename_i t20 h20 l20 h21 F21 N21 ll
        refine ne_intsK (isList_of (N21 (D, listOf ys.toArray e13) (by walk_at "IN")).1) hys (isList_of (vs := ([] : List Value).toArray) (N21 (l20, listOf #[] 0) (by walk_at "IN")).1) IntsAre.nil (by have := ok.un; rw [units_deeper]; omega) ?_
        rw [hb]
        walk_at "M"
        rename_i h23 ot3 F23 N23 d23
        rw [same_shape] at F23
        rw [List.push_toArray] at N23
        refine ⟨gs.length - (p + 1), by omega, fun GG kk => kk h23 _ (p + 1) ot3 _ (fvs ++ [Value.int (gs.getD ((p : Int)).toNat 0) t20]) (ef + 1) (out ++ [gs.getD ((p : Int)).toNat 0]) _ rfl F23 (news_sub N23 ?_) (by rw [d23]; simp; rfl) (IntsAre.append hf (IntsAre.cons _ _ IntsAre.nil)) (by omega) rfl (by simp; omega) (fun o ho => ?_)⟩
        · walk_at "SUB"
        · rw [List.append_assoc]
          exact hdr (gs.getD ((p : Int)).toNat 0 :: o) (.step hpos (fun z => z) hdec (by rw [List.drop_drop]; exact ho))
  · have hpe : p = gs.length := by omega
    refine h fl fvs ef out h7 _ (N7 (fl, listOf fvs.toArray ef) (by walk_at "IN")).1 hf ?_ (none_of_stays sg (N7 (fl, listOf fvs.toArray ef) (by walk_at "IN")).2.2) (fun b o e => F7.keep b o (sg b o e))
    have := hdr [] (by rw [hpe, List.drop_length]; exact .stop (.inl rfl))
    simpa using this
end Mine

open PySem PySem.W PySem.Calls PyProof.Rows
set_option Elab.async false
set_option maxRecDepth 100000
namespace Mine
theorem freshLawD : True := by w_top off; trivial
theorem draw_law {w : World} {A : Around} {s : Shared} {g : Heap} {L p c : Addr} {m : Str → Option Value} {e ec : Nat} {ns : List Int} {vs : List Value} {i v many : Int} {t1 t2 tm : Tok} {rest : List (Addr × Obj)} {Q : Value → Shared → Prop} {E : Value → Shared → Prop}
    (ok : Ok 3 A) (G : Gc w g) (F : Fr g L s.heap m) (N : News g L s.heap ((p, penOf c i v t1 t2 e) :: rest)) (hne : ∀ q ∈ rest, @Ne Nat q.1 p) (hc : (c, listOf vs.toArray ec) ∈ rest) (hi : IntsAre vs ns) (hns : 0 < ns.length) (hns1 : ns.length ≤ 42)
    (hi0 : 0 ≤ i) (hi1 : i < 1000) (hv : 0 ≤ v) (hm : 2 ≤ many) (hm1 : many ≤ 7)
    (h : ∀ d i' v' td t1' t2' h' tk', 0 ≤ d → d < many → 0 ≤ i' → i' ≤ i + 1 → 0 ≤ v' → Fr g L h' m → News g L h' ((p, penOf c i' v' t1' t2' e) :: rest) → Q (.int d td) { s with heap := h', toks := tk' }) :
    wpAny (model PySem.Challenge.rw_pb0154_01.row.prog w) A (call (.ref 126) [.ref p, .int many tm]) Q E s := by
  have hpn := N _ (List.Mem.head _)
  refine draw_spec ok G F.keep hpn.1 hpn.2.2 (N _ (List.mem_cons_of_mem _ hc)).1 (hne _ hc) hi hns hns1 hi0 hi1 hv hm hm1 (fun d i' v' td t1' t2' h' tk' a1 a2 a3 a4 a5 k hp' => ?_)
  refine h d i' v' td t1' t2' h' tk' a1 a2 a3 a4 a5 (fr_call F (fp := [(p, penOf c i v t1 t2 e)]) (fun q hq => by rw [List.mem_singleton.mp hq]; exact hpn) (fun b o hb e => k b o (by simpa using hb) e)) (news_pen N (List.Mem.head _) k hp' fun q hq => ?_)
  rcases List.mem_cons.mp hq with rfl | hq
  · exact .inl rfl
  · exact .inr ⟨List.mem_cons_of_mem _ hq, hne q hq⟩
end Mine

open PySem PySem.W PySem.Calls PyProof.Rows
set_option Elab.async false
set_option maxRecDepth 100000
namespace Mine
theorem freshSliceT : True := by w_top off; trivial
section
variable {prog : Program} {w : World} {A : Around} {E : Value → Shared → Prop} {s : Shared}
theorem adjust_upto (b n : Nat) : Builtin.Slice.sliceAdjust none (some (b : Int)) 1 (n : Int) = ((0 : Int), ((min b n : Nat) : Int)) := by
  unfold Builtin.Slice.sliceAdjust
  have h1 : ¬ ((1 : Int) < 0) := by omega
  have h2 : ¬ ((b : Int) < 0) := by omega
  simp only [h1, h2, if_false]
  congr 1
  omega
theorem places_upto (k : Nat) : Builtin.Slice.slicePlaces 0 (k : Int) 1 = k := by
  unfold Builtin.Slice.slicePlaces
  have h1 : (1 : Int) > 0 := by omega
  simp only [h1, if_true, Int.ediv_one]
  split <;> omega
theorem sliceApplied_upto {sl : Addr} {b n : Nat} {u : Tok} {Q : Int × Int × Nat → Shared → Prop} (hs : s.heap.IsSliceOf sl .none (.int b u) .none) (h : Q ((0 : Int), 1, min b n) s) :
    wpAny (model prog w) A (Builtin.Slice.sliceApplied (.ref sl) (pure (n : Int))) Q E s := by
  obtain ⟨os, hos, hcs, hds⟩ := id hs
  unfold Builtin.Slice.sliceApplied Builtin.Slice.sliceFields
  refine wpAny_bind (wpAny_bind (wpAny_field hos hds (x := .none) rfl (wpAny_bind (wpAny_field hos hds (x := .int b u) rfl (wpAny_bind (wpAny_field hos hds (x := .none) rfl (wpAny_pure ?_)))))))
  refine wpAny_bind (slicePart_none ?_)
  show wpAny _ _ (if ((1 : Int) == 0) = true then _ else _) _ _ s
  rw [if_neg (by decide)]
  refine wpAny_bind (slicePart_none (wpAny_bind (slicePart_int (wpAny_bind (wpAny_pure ?_)))))
  show wpAny _ _ (match Builtin.Slice.sliceAdjust none (some (b : Int)) 1 (n : Int) with | (lo, hi) => pure (lo, (1 : Int), Builtin.Slice.slicePlaces lo hi 1)) _ _ s
  rw [adjust_upto b n]
  show wpAny _ _ (pure ((0 : Int), (1 : Int), Builtin.Slice.slicePlaces 0 ((min b n : Nat) : Int) 1)) _ _ s
  rw [places_upto]
  exact wpAny_pure h
theorem pick_upto (xs : Array Value) (k : Nat) (hk : k ≤ xs.size) : ((List.range k).filterMap fun (j : Nat) => xs[((0 : Int) + (j : Int) * 1).toNat]?).toArray = (xs.toList.take k).toArray := by
  have e : (fun (j : Nat) => xs[((0 : Int) + (j : Int) * 1).toNat]?) = fun j => xs[0 + j]? := by
    funext j
    have : ((0 : Int) + (j : Int) * 1).toNat = 0 + j := by omega
    rw [this]
  rw [e]
  have := pick_run xs 0 k
  rw [List.filterMap_map] at this
  have e2 : ((fun x => xs[x]?) ∘ fun x => 0 + x) = fun j => xs[0 + j]? := rfl
  rw [e2] at this
  rw [this, List.drop_zero]

theorem getItem_tuple_upto {t sl : Addr} {items : Array Value} {b : Nat} {u : Tok} {Q : Value → Shared → Prop} (ht : IsTup s.heap t items) (hs : s.heap.IsSliceOf sl .none (.int b u) .none)
    (h1 : items.size ≤ b → Q (.ref t) s) (h : b < items.size → Q (.ref s.heap.objs.size) { s with heap := s.heap.push { cls := .type "tuple", data := .seq (items.toList.take b).toArray } })
    (hsz : items.size ≤ sizeLine) : wpAny (model prog w) A (getItem (.ref t) (.ref sl)) Q E s := by
  have hdrop : sizeOk (.seq (items.toList.take b).toArray) := by
    show (items.toList.take b).toArray.size ≤ sizeLine
    rw [List.size_toArray, List.length_take, Array.length_toList]
    omega
  obtain ⟨os, hos, hcs, hds⟩ := id hs
  have hTs : s.TypeIs (.ref sl) "slice" := ⟨os, hos, hcs⟩
  unfold getItem
  try with_reducible refine wpAny_holding ?_
  first | refine wpAny_bind (wpAny_pure ?_) | skip
  refine wpAny_bind (wpAny_sequenceKey ht.typeIs (by decide) ?_)
  refine wpAny_bind (wpAny_callSpecial?_slot (name := Str.ofString "__getitem__") ht.typeIs slot_tuple_getitem
    (wpAny_call_entry slot_tuple_getitem ht.typeIs entry_tuple_getitem ?_ (args_tuple_getitem _ _)))
  show wpAny _ _ (Builtin.Tuple.tupleItemsOf (.ref t) >>= _) _ _ s
  refine wpAny_bind (tupleItemsOf_ ht ?_)
  refine wpAny_bind (wpAny_typeOf hTs ?_)
  rw [if_pos (by decide)]
  refine wpAny_bind (sliceApplied_upto hs ?_)
  show wpAny _ _ (if ((0 : Int) == 0 && (1 : Int) == 1 && (min b items.size) == items.size) = true then _ else _) _ _ s
  by_cases hb : items.size ≤ b
  · rw [Nat.min_eq_right hb, if_pos (by simp)]
    unfold Builtin.Tuple.tupleIsExact
    refine wpAny_bind (wpAny_bind (wpAny_typeOf ht.typeIs (wpAny_pure ?_)))
    rw [if_pos (by decide)]
    exact wpAny_bind (wpAny_rule (wpAny_pure ⟨_, rfl, wpAny_pure (h1 hb)⟩))
  · have hno : ¬ (((0 : Int) == 0 && (1 : Int) == 1 && (min b items.size) == items.size) = true) := by
      rw [Nat.min_eq_left (by omega)]
      simp
      omega
    rw [if_neg hno, Nat.min_eq_left (by omega), pick_upto items b (by omega)]
    have hq := h (by omega)
    first
      | exact wpAny_bind (m := Builtin.Tuple.tupleExact _) (wpAny_newObj_type (wpAny_pure ⟨_, rfl, wpAny_pure hq⟩) hdrop)
      | exact wpAny_bind (m := Builtin.Tuple.tupleExact _) (wpAny_newObj_type (wpAny_bind (wpAny_pure (wpAny_pure ⟨_, rfl, wpAny_pure hq⟩))) hdrop)
      | exact wpAny_bind (wpAny_bind (m := Builtin.Tuple.tupleExact _) (wpAny_newObj_type (wpAny_pure (wpAny_pure ⟨_, rfl, wpAny_pure hq⟩)) hdrop))
      | exact wpAny_bind (wpAny_bind (m := Builtin.Tuple.tupleExact _) (wpAny_newObj_type (wpAny_pure ⟨_, rfl, wpAny_pure hq⟩) hdrop))
end
section
variable {prog : Program} {w : World} {A : Around} {E : Value → Shared → Prop} {s : Shared} {h₀ : Heap} {L : Addr} {m : Str → Option Value} {news : List (Addr × Obj)}
/-- t[:b] of a tuple, and the list of it -/
theorem slice_tuple_upto {value slice : Expr} {t : Addr} {vs : List Value} {b n : Nat} {u : Tok} {Q : Value → Shared → Prop}
    (F : Fr h₀ L s.heap m) (N : News h₀ L s.heap news) (hm : (t, tupOf vs.toArray n) ∈ news)
    (h : ∀ r n' h', Fr h₀ L h' m → News h₀ L h' ((r, tupOf (vs.take b).toArray n') :: news) → Q (.ref r) { s with heap := h' }) (hsz : vs.toArray.size ≤ sizeLine)
    (hs : subscripted slice false (.ref t) (.ref s.heap.objs.size) = operate [.ref s.heap.objs.size, .ref t] (getItem (.ref t) (.ref s.heap.objs.size)) := by with_unfolding_all rfl) :
    wpAny (model prog w) A (subscriptTail value slice (.ref t) (.ref s.heap.objs.size)) Q E { s with heap := s.heap.push { cls := .type "slice", data := .fields #[.none, .int b u, .none] } } := by
  have ht : s.heap.get? t = some (tupOf vs.toArray n) := (N _ hm).1
  have e1 : (s.heap.push { cls := .type "slice", data := .fields #[.none, .int b u, .none] }).get? t = some (tupOf vs.toArray n) := Heap.get?_push_of_some _ ht
  have ht' : IsTup (s.heap.push { cls := .type "slice", data := .fields #[.none, .int b u, .none] }) t vs.toArray := ⟨_, e1, rfl, n, rfl⟩
  have N0 : News h₀ L (s.heap.push { cls := .type "slice", data := .fields #[.none, .int b u, .none] }) news := N.grown fun _ _ e => Heap.get?_push_of_some _ e
  refine tail_any (s := { s with heap := s.heap.push { cls := .type "slice", data := .fields #[.none, .int b u, .none] } }) ht'.typeIs slot_tuple_getitem.lookup
    (getItem_tuple_upto ht' (Heap.IsSliceOf.new ..) (fun hb => ?_) (fun hb => ?_) hsz) hs
  · refine h t n _ (F.push _) fun q hq => ?_
    rcases List.mem_cons.mp hq with rfl | hq
    · rw [List.take_of_length_le (by simpa using hb)]
      exact N0 _ hm
    · exact N0 q hq
  · exact h _ 0 _ ((F.push _).push _) (News.push (F.push _) N0 _)
end
end Mine

open PySem PySem.W PySem.Calls PyProof.Rows
set_option Elab.async false
set_option maxRecDepth 100000
namespace Mine
theorem freshEnum : True := by w_top off; trivial
section
variable {prog : Program} {w : World} {A : Around} {s : Shared} {env : Env} {g : Heap}

def TurnEnd2 (g : Heap) (L : Addr) (I : Addr) (oI : Obj) (I2 : Addr) (oI2 : Obj) (dep : Addr × Obj) (J : (Str → Option Value) → List (Addr × Obj) → Prop) (s s₂ : Shared) : Prop :=
  ∃ h' tk' m' news', s₂ = { s with heap := h', toks := tk' } ∧ Fr g L h' m' ∧ News g L h' (news' ++ [(I, oI), (I2, oI2)]) ∧ (∀ p ∈ news', p.1 ≠ I ∧ p.1 ≠ I2) ∧ h'.get? dep.1 = some dep.2 ∧ J m' news'
def TurnPost2 (g : Heap) (L : Addr) (I : Addr) (oI : Obj) (I2 : Addr) (oI2 : Obj) (dep : Addr × Obj) (J : (Str → Option Value) → List (Addr × Obj) → Prop) (R : Result → Shared → Prop) (s : Shared) (f : Flow) (s₂ : Shared) : Prop :=
  match f with
  | .ret v => R (.ok (.ret v)) s₂
  | .brk => R (.ok .next) s₂
  | _ => TurnEnd2 g L I oI I2 oI2 dep J s s₂

theorem iter_enum {R : Result → Shared → Prop} {E : Value → Shared → Prop} {elts : List Expr} {kk : Nat} {tp : Pos} {body : List Stmt} {ax : Addr} {vs : List Value} {e : Nat} {m₀ : Str → Option Value} {news₀ : List (Addr × Obj)}
    (hh : A.handled = none) (hl : s.heap.get? ax = some (listOf vs.toArray e)) (F : Fr g env.locals s.heap m₀) (N : News g env.locals s.heap news₀)
    (J : Nat → (Str → Option Value) → List (Addr × Obj) → Prop) (h0 : J 0 m₀ news₀)
    (turn : ∀ I I2 T i t v m₁ news₁ h tk oI oI2, vs[i]? = some v → J i m₁ news₁ → s.heap.get? I = none → s.heap.get? I2 = none → (∀ p ∈ news₁, p.1 ≠ I ∧ p.1 ≠ I2) → h.get? ax = some (listOf vs.toArray e) → h.IsTuple T #[.int (i : Nat) t, v] → Fr g env.locals h m₁ → News g env.locals h (news₁ ++ [(I, oI), (I2, oI2)]) →
      wpAny (model prog w) A (assign (.Tuple elts kk tp) env (.ref T)) (fun _ s₁ => wpAny (model prog w) A (execs body env) (TurnPost2 g env.locals I oI I2 oI2 (ax, listOf vs.toArray e) (J (i + 1)) R { s with heap := h, toks := tk }) (fun _ _ => False) s₁) (fun _ _ => False) { s with heap := h, toks := tk })
    (done : ∀ h' tk m' news', J vs.length m' news' → Fr g env.locals h' m' → News g env.locals h' news' → h'.get? ax = some (listOf vs.toArray e) → R (.ok .next) { s with heap := h', toks := tk }) :
    wpAny (model prog w) A (call (.type "enumerate") [.ref ax]) (fun x s₁ => wpAny (model prog w) A (pyIter x) (fun it s₂ => codeAny (model prog w) A (.forLoop (.Tuple elts kk tp) it body [] env) R s₂) E s₁) E s := by
  refine call_enumerate_list (isList_of hl) fun hE he hit hsz hk => ?_
  have hltx : ax < s.heap.objs.size := Heap.lt_size hl
  have f1 : s.heap.get? s.heap.objs.size = none := none_of_size (Nat.le_refl _)
  have f2 : s.heap.get? (s.heap.objs.size + 1) = none := none_of_size (Nat.le_succ _)
  have W := WalksT.enumerate (prog := prog) (w := w) hh (s.heap.objs.size + 1) s.heap.objs.size ax (Nat.ne_of_gt (Nat.lt_succ_self _)) (Nat.ne_of_lt (Nat.lt_succ_of_lt hltx)) (Nat.ne_of_lt hltx) vs.toArray
  generalize hI : s.heap.objs.size + 1 = I at *
  generalize hI2 : s.heap.objs.size = I2 at *
  have g1 : g.get? I = none := none_of_stays (fun b o e => F.keep b o e) f2
  have g2 : g.get? I2 = none := none_of_stays (fun b o e => F.keep b o e) f1
  have ltL : env.locals < I2 := hI2 ▸ F.ns.lt
  have nL1 : env.locals ≠ I := Nat.ne_of_lt (by rw [← hI]; exact Nat.lt_succ_of_lt ltL)
  have nL2 : env.locals ≠ I2 := Nat.ne_of_lt ltL
  have st0 : (∃ old, IsEnum hE I I2 0 old) ∧ hE.IsListIter I2 ax 0 ∧ hE.IsList ax vs.toArray := ⟨⟨_, he⟩, hit, (isList_of hl).at fun o e => hk _ _ e⟩
  refine W.self 0 _ _ _ st0 ?_
  refine codeAny_forLoop_any
    (fun k s' => ∀ GG : Prop, (∀ (h' : Heap) (tk : Nat) (m' : Str → Option Value) (news' : List (Addr × Obj)) (i : Nat), s' = { s with heap := h', toks := tk } → ((∃ old, IsEnum h' I I2 (i : Nat) old) ∧ h'.IsListIter I2 ax i ∧ h'.IsList ax vs.toArray) → h'.get? ax = some (listOf vs.toArray e) → Fr g env.locals h' m' → News g env.locals h' news' → (∀ p ∈ news', p.1 ≠ I ∧ p.1 ≠ I2) → J i m' news' → i ≤ vs.length → k = vs.length + 1 - i → GG) → GG) ?_ (vs.length + 1)
    (fun GG kk => kk hE s.toks m₀ news₀ 0 rfl st0 (hk _ _ hl) (Fr.keeps F hk) (News.grown N hk) (fun p hp => ?_) h0 (Nat.zero_le _) rfl)
  · intro k s' hI9
    refine hI9 _ ?_
    clear hI9
    rintro h' tk m' news' i rfl hst' hax' F' N' hnw' hJ hi rfl
    have next : ∀ h₁ : Heap, (∀ b o, b ∉ [I, I2] → h'.get? b = some o → h₁.get? b = some o) → Fr g env.locals h₁ m' ∧ News g env.locals h₁ news' ∧ h₁.get? ax = some (listOf vs.toArray e) := fun h₁ hk₁ => by
      have hkk : ∀ b o, b ≠ I → b ≠ I2 → h'.get? b = some o → h₁.get? b = some o := fun b o a1 a2 e => hk₁ b o (by simp [a1, a2]) e
      refine ⟨⟨F'.ns.at' fun o e => hkk _ o nL1 nL2 e, fun b o e => hkk b o (fun q => ?_) (fun q => ?_) (F'.keep b o e), F'.above⟩, fun p hp => ⟨hkk _ _ (hnw' p hp).1 (hnw' p hp).2 (N' p hp).1, (N' p hp).2⟩, hkk _ _ (fun q => ?_) (fun q => ?_) hax'⟩
      · rw [q, g1] at e; cases e
      · rw [q, g2] at e; cases e
      · rw [q, f2] at hl; cases hl
      · rw [q, f1] at hl; cases hl
    by_cases hlt : i < vs.length
    · refine W.item i _ _ _ (by simpa using hlt) hst' fun T vals h₁ tk₁ hP hT hIT hM hk₁ => ?_
      obtain ⟨t, x, hx, rfl⟩ := hP
      refine W.go elts kk tp i T _ _ _ hM fun h₂ hst₂ hk₂ => ?_
      have hT2 : h₂.IsTuple T #[.int (i : Nat) t, x] := by
        obtain ⟨o, ho, r⟩ := hIT
        exact ⟨o, hk₂ _ _ (W.apart i T _ hM) ho, r⟩
      obtain ⟨F₂, N₂, D₂⟩ := next h₂ (fun b o hb e => hk₂ b o hb (hk₁ b o hb e))
      obtain ⟨oI, hoI⟩ : ∃ o, h₂.get? I = some o := by
        obtain ⟨⟨old, he2⟩, _⟩ := hst₂
        exact ⟨_, he2⟩
      obtain ⟨oI2, hoI2⟩ : ∃ o, h₂.get? I2 = some o := by
        obtain ⟨_, ⟨o, ho, _⟩, _⟩ := hst₂
        exact ⟨o, ho⟩
      have N₃ : News g env.locals h₂ (news' ++ [(I, oI), (I2, oI2)]) := fun p hp => by
        rcases List.mem_append.mp hp with hp | hp
        · exact N₂ p hp
        · rcases List.mem_cons.mp hp with rfl | hp
          · exact ⟨hoI, Ne.symm nL1, g1⟩
          · rw [List.mem_singleton.mp hp]; exact ⟨hoI2, Ne.symm nL2, g2⟩
      refine wpAny_mono (turn I I2 T i t x m' news' h₂ _ oI oI2 (by simpa using hx) hJ f2 f1 hnw' D₂ hT2 F₂ N₃) (fun _ s₂ h₂' => wpAny_mono h₂' (fun f s₃ h₃ => ?_) fun _ _ x => x.elim) fun _ _ x => x.elim
      have fin : TurnEnd2 g env.locals I oI I2 oI2 (ax, listOf vs.toArray e) (J (i + 1)) { s with heap := h₂, toks := tk₁ } s₃ → ∃ m, m < vs.length + 1 - i ∧ ∀ GG : Prop, (∀ (h' : Heap) (tk : Nat) (m' : Str → Option Value) (news' : List (Addr × Obj)) (i : Nat), s₃ = { s with heap := h', toks := tk } → ((∃ old, IsEnum h' I I2 (i : Nat) old) ∧ h'.IsListIter I2 ax i ∧ h'.IsList ax vs.toArray) → h'.get? ax = some (listOf vs.toArray e) → Fr g env.locals h' m' → News g env.locals h' news' → (∀ p ∈ news', p.1 ≠ I ∧ p.1 ≠ I2) → J i m' news' → i ≤ vs.length → m = vs.length + 1 - i → GG) → GG := by
        rintro ⟨h₃', tk₃, m₂, news₂, rfl, F₃, N₄, hn₃, D₃, hJ₃⟩
        refine ⟨vs.length + 1 - (i + 1), by omega, fun GG kk => kk h₃' tk₃ m₂ news₂ (i + 1) rfl ?_ D₃ F₃ (fun p hp => N₄ p (List.mem_append_left _ hp)) hn₃ hJ₃ hlt rfl⟩
        refine W.frame _ _ _ hst₂ fun b hb o eb => ?_
        rcases List.mem_cons.mp hb with rfl | hb
        · have := (N₄ (_, oI) (List.mem_append_right _ (List.Mem.head _))).1
          rw [hoI] at eb; rw [← Option.some.inj eb]; exact this
        · rcases List.mem_cons.mp hb with rfl | hb
          · have := (N₄ (_, oI2) (List.mem_append_right _ (List.mem_cons_of_mem _ (List.Mem.head _)))).1
            rw [hoI2] at eb; rw [← Option.some.inj eb]; exact this
          · rw [List.mem_singleton.mp hb] at eb ⊢
            rw [D₂] at eb; rw [← Option.some.inj eb]; exact D₃
      cases f with
      | ret v => exact h₃
      | brk => exact h₃
      | next => exact fin h₃
      | cont => exact fin h₃
    · have hin : i = vs.length := by omega
      subst hin
      refine W.done _ _ _ (by simpa using hst') fun h₁ tk₁ hk₁ => wpAny_execs_nil ?_
      obtain ⟨F₁, N₁, D₁⟩ := next h₁ hk₁
      exact done h₁ tk₁ m' news' hJ F₁ N₁ D₁
  · have hp' := (N p hp).1
    exact ⟨fun q => (by rw [q, f2] at hp'; cases hp'), fun q => (by rw [q, f1] at hp'; cases hp')⟩
end
theorem assign_pairT {prog : Program} {w : World} {A : Around} {E : Value → Shared → Prop} {s : Shared} {env : Env} {g : Heap} {a b : Str} {pa pb tp : Pos} {kk : Nat} {T : Addr} {x y : Value} {m : Str → Option Value} {news : List (Addr × Obj)} {Q : Unit → Shared → Prop}
    (hh : A.handled = none) (ht : s.heap.IsTuple T #[x, y]) (ha : env.kindOf a = some .local) (hb : env.kindOf b = some .local)
    (hp : (env.scope.kind == .class || (env.scope.kind == .module && env.locals != env.globals)) = false) (F : Fr g env.locals s.heap m) (N : News g env.locals s.heap news)
    (h : ∀ (h' : Heap) (tk : Nat), Fr g env.locals h' (fun z => if z = b then some y else if z = a then some x else m z) → News g env.locals h' news → (∀ c o, c ≠ env.locals → s.heap.get? c = some o → h'.get? c = some o) → Q () { s with heap := h', toks := tk }) :
    wpAny (model prog w) A (assign (.Tuple [.Name a pa, .Name b pb] kk tp) env (.ref T)) Q E s :=
  kcp_assign hh ht ha hb hp F.ns fun h' tk hn hk => h h' tk
    ⟨hn, fun c o e => hk c o (fun q => by
      have := F.above
      have h2 := Heap.lt_size e
      rw [q] at h2
      exact absurd h2 (Nat.not_lt.mpr this)) (F.keep c o e), F.above⟩
    (fun p hp => ⟨hk _ _ (N p hp).2.1 (N p hp).1, (N p hp).2⟩) hk
theorem mkTurn2 {g h' : Heap} {L I I2 : Addr} {oI oI2 : Obj} {dep : Addr × Obj} {J : (Str → Option Value) → List (Addr × Obj) → Prop} {s : Shared} {tk' : Nat} {m' : Str → Option Value} {news' : List (Addr × Obj)} (F : Fr g L h' m') (N : News g L h' (news' ++ [(I, oI), (I2, oI2)])) (hn : ∀ p ∈ news', p.1 ≠ I ∧ p.1 ≠ I2) (hd : h'.get? dep.1 = some dep.2) (hJ : J m' news') :
    TurnEnd2 g L I oI I2 oI2 dep J s { s with heap := h', toks := tk' } := ⟨h', tk', m', news', rfl, F, N, hn, hd, hJ⟩
end Mine

open PySem PySem.W PySem.Calls PyProof.Rows
set_option Elab.async false
namespace Mine
theorem freshPlain : True := by w_top off; trivial
abbrev NoStop : List Int → Prop := fun _ => False

theorem longest_det {Ev : List Int → Option Int} {gs : List Int} {m m' : Nat} {l l' : Int} (h : Longest Ev gs m l) (h' : Longest Ev gs m' l') : m = m' ∧ l = l' := by
  rcases h with ⟨a1, a2, a3⟩ | ⟨a1, a2, a3, a4⟩ <;> rcases h' with ⟨b1, b2, b3⟩ | ⟨b1, b2, b3, b4⟩
  · exact ⟨by omega, by omega⟩
  · rw [a3 m' b1 b2] at b3; cases b3
  · rw [b3 m a1 a2] at a3; cases a3
  · have e : m = m' := by
      rcases Nat.lt_trichotomy m m' with h | h | h
      · rw [a4 m' h b2] at b3; cases b3
      · exact h
      · rw [b4 m h a2] at a3; cases a3
    subst e
    rw [a3] at b3
    exact ⟨rfl, Option.some.inj b3⟩

theorem decide_det {Ev : List Int → Option Int} {gs : List Int} {n n' : Nat} {l l' : Int} (h : DecideP Ev gs n l) (h' : DecideP Ev gs n' l') : n = n' ∧ l = l' := by
  obtain ⟨m, g, h1, h2⟩ := h
  obtain ⟨m', g', h1', h2'⟩ := h'
  obtain ⟨rfl, rfl⟩ := longest_det h1 h1'
  rcases h2 with ⟨a, b, c⟩ | ⟨a, b, c⟩ <;> rcases h2' with ⟨a', b', c'⟩ | ⟨a', b', c'⟩
  · rw [c] at c'; exact ⟨by omega, Option.some.inj c'⟩
  · exact absurd a a'
  · exact absurd a' a
  · exact ⟨by omega, by omega⟩

theorem drain_rest {Ev : List Int → Option Int} {gs o r : List Int} (h : Drain NoStop Ev gs o r) : r = [] := by
  induction h with
  | stop h => exact h.elim id False.elim
  | step _ _ _ _ ih => exact ih

theorem drain_det {Ev : List Int → Option Int} {gs o r : List Int} (h : Drain NoStop Ev gs o r) : ∀ {o' r' : List Int}, Drain NoStop Ev gs o' r' → o = o' := by
  induction h with
  | stop h =>
    intro o' r' h'
    cases h' with
    | stop _ => rfl
    | step hne _ _ _ => exact absurd (h.elim id False.elim) hne
  | step hne _ hd _ ih =>
    intro o' r' h'
    cases h' with
    | stop h => exact absurd (h.elim id False.elim) hne
    | step _ _ hd' hr' =>
      obtain ⟨rfl, rfl⟩ := decide_det hd hd'
      rw [ih hr']

theorem longest_some_ex {Ev : List Int → Option Int} (gs : List Int) (k : Nat) (hk : k ≤ gs.length) : ∃ m l, (m = 0 ∧ l = -1 ∧ ∀ j, 1 ≤ j → j ≤ k → Ev (gs.take j) = none) ∨ (1 ≤ m ∧ m ≤ k ∧ Ev (gs.take m) = some l ∧ ∀ j, m < j → j ≤ k → Ev (gs.take j) = none) := by
  induction k with
  | zero => exact ⟨0, -1, .inl ⟨rfl, rfl, fun j h1 h2 => by omega⟩⟩
  | succ k ih =>
    cases e : Ev (gs.take (k + 1)) with
    | some l => exact ⟨k + 1, l, .inr ⟨by omega, Nat.le_refl _, e, fun j h1 h2 => by omega⟩⟩
    | none =>
      obtain ⟨m, l, h⟩ := ih (by omega)
      refine ⟨m, l, ?_⟩
      rcases h with ⟨a, b, c⟩ | ⟨a, b, c, d⟩
      · refine .inl ⟨a, b, fun j h1 h2 => ?_⟩
        by_cases hj : j = k + 1
        · rw [hj]; exact e
        · exact c j h1 (by omega)
      · refine .inr ⟨a, by omega, c, fun j h1 h2 => ?_⟩
        by_cases hj : j = k + 1
        · rw [hj]; exact e
        · exact d j h1 (by omega)

theorem decide_ex {Ev : List Int → Option Int} (hne : ∀ q e, Ev q = some e → e ≠ -1) {gs : List Int} (h : gs ≠ []) : ∃ n l, DecideP Ev gs n l := by
  obtain ⟨m, l, hl⟩ := longest_some_ex (Ev := Ev) gs gs.length (Nat.le_refl _)
  obtain ⟨x, r, rfl⟩ : ∃ x r, gs = x :: r := by cases gs with | nil => exact absurd rfl h | cons x r => exact ⟨x, r, rfl⟩
  rcases hl with ⟨a, b, c⟩ | ⟨a, b, c, d⟩
  · exact ⟨1, x, m, l, .inl ⟨a, b, c⟩, .inl ⟨b, rfl, rfl⟩⟩
  · exact ⟨m, l, m, l, .inr ⟨a, b, c, d⟩, .inr ⟨hne _ _ c, rfl, rfl⟩⟩

theorem drain_ex {Ev : List Int → Option Int} (hne : ∀ q e, Ev q = some e → e ≠ -1) : ∀ (n : Nat) (gs : List Int), gs.length ≤ n → ∃ o, Drain NoStop Ev gs o [] := by
  intro n
  induction n with
  | zero =>
    intro gs h
    have : gs = [] := List.length_eq_zero_iff.mp (by omega)
    subst this
    exact ⟨[], .stop (.inl rfl)⟩
  | succ n ih =>
    intro gs h
    by_cases hg : gs = []
    · subst hg; exact ⟨[], .stop (.inl rfl)⟩
    · obtain ⟨k, l, hd⟩ := decide_ex hne hg
      have hk := decide_pos hd
      have := List.length_pos_iff.mpr hg
      obtain ⟨o, ho⟩ := ih (gs.drop k) (by rw [List.length_drop]; omega)
      exact ⟨l :: o, .step hg (fun z => z) hd ho⟩

/-- the nodes of the trie are the beginnings of the words -/
def Nodes (W : List (List Int × Int)) (ps : List (List Int)) : Prop := ∀ x, x ∈ ps ↔ x = [] ∨ ∃ p ∈ W, ∃ j ≤ p.1.length, x = p.1.take j

theorem longer_open {W : List (List Int × Int)} {ps : List (List Int)} (hps : Nodes W ps) {gs t : List Int} {k : Nat} {l : Int} (hk : gs.length < k) (hkl : k ≤ (gs ++ t).length) (h : EvOf W ((gs ++ t).take k) = some l) : OpenP ps gs := by
  obtain ⟨p, hp, e, _⟩ := EvOf_mem h
  have hl : p.1.length = k := by rw [e, List.length_take]; omega
  have e1 : p.1.take gs.length = gs := by
    rw [e, List.take_take, Nat.min_eq_left (by omega), List.take_left']
    rfl
  refine ⟨(hps gs).mpr (.inr ⟨p, hp, gs.length, by omega, e1.symm⟩), p.1[gs.length]'(by omega), (hps _).mpr (.inr ⟨p, hp, gs.length + 1, by omega, ?_⟩)⟩
  rw [List.take_add_one, e1, List.getElem?_eq_getElem (by omega)]
  rfl

theorem longest_app {W : List (List Int × Int)} {ps : List (List Int)} (hps : Nodes W ps) {gs : List Int} {m : Nat} {l : Int} (hno : ¬ OpenP ps gs) (h : Longest (EvOf W) gs m l) (t : List Int) : Longest (EvOf W) (gs ++ t) m l := by
  have far : ∀ k, gs.length < k → k ≤ (gs ++ t).length → EvOf W ((gs ++ t).take k) = none := fun k h1 h2 => by
    cases e : EvOf W ((gs ++ t).take k) with
    | none => rfl
    | some v => exact absurd (longer_open hps h1 h2 e) hno
  have near : ∀ k, k ≤ gs.length → (gs ++ t).take k = gs.take k := fun k hk => List.take_append_of_le_length hk
  rcases h with ⟨a, b, c⟩ | ⟨a, b, c, d⟩
  · refine .inl ⟨a, b, fun k h1 h2 => ?_⟩
    by_cases hk : k ≤ gs.length
    · rw [near k hk]; exact c k h1 hk
    · exact far k (by omega) h2
  · refine .inr ⟨a, by rw [List.length_append]; omega, by rw [near m b]; exact c, fun k h1 h2 => ?_⟩
    by_cases hk : k ≤ gs.length
    · rw [near k hk]; exact d k h1 hk
    · exact far k (by omega) h2

theorem decide_le {Ev : List Int → Option Int} {gs : List Int} {n : Nat} {l : Int} (hg : gs ≠ []) (h : DecideP Ev gs n l) : n ≤ gs.length := by
  have := List.length_pos_iff.mpr hg
  obtain ⟨m, g, h1, h2⟩ := h
  rcases h2 with ⟨a, b, c⟩ | ⟨a, b, c⟩
  · omega
  · rcases h1 with ⟨_, e, _⟩ | ⟨_, e, _⟩
    · exact absurd e a
    · omega

theorem decide_app {W : List (List Int × Int)} {ps : List (List Int)} (hps : Nodes W ps) {gs : List Int} {n : Nat} {l : Int} (hg : gs ≠ []) (hno : ¬ OpenP ps gs) (h : DecideP (EvOf W) gs n l) (t : List Int) : DecideP (EvOf W) (gs ++ t) n l := by
  obtain ⟨m, g, h1, h2⟩ := h
  refine ⟨m, g, longest_app hps hno h1 t, ?_⟩
  rcases h2 with ⟨a, b, c⟩ | h2
  · refine .inl ⟨a, b, ?_⟩
    cases gs with
    | nil => exact absurd rfl hg
    | cons x r => exact c
  · exact .inr h2

theorem drain_app {W : List (List Int × Int)} {ps : List (List Int)} (hps : Nodes W ps) {gs o r : List Int} (h : Drain (OpenP ps) (EvOf W) gs o r) : ∀ {t o2 r2 : List Int}, Drain NoStop (EvOf W) (r ++ t) o2 r2 → Drain NoStop (EvOf W) (gs ++ t) (o ++ o2) r2 := by
  induction h with
  | stop _ => exact fun h2 => h2
  | @step gs n l out rest hg hno hd _ ih =>
    intro t o2 r2 h2
    refine .step (fun e => hg (List.append_eq_nil_iff.mp e).1) (fun z => z) (decide_app hps hg hno hd t) ?_
    rw [List.drop_append_of_le_length (decide_le hg hd)]
    exact ih h2

theorem drain_suffix {S : List Int → Prop} {Ev : List Int → Option Int} {gs o r : List Int} (h : Drain S Ev gs o r) : ∃ m, m ≤ gs.length ∧ r = gs.drop m := by
  induction h with
  | stop _ => exact ⟨0, Nat.zero_le _, rfl⟩
  | @step gs n l out rest hg hno hd _ ih =>
    obtain ⟨m, hm, e⟩ := ih
    have := decide_le hg hd
    rw [List.length_drop] at hm
    exact ⟨n + m, by omega, by rw [e, List.drop_drop]⟩

theorem drain_end {S : List Int → Prop} {Ev : List Int → Option Int} {gs o r : List Int} (h : Drain S Ev gs o r) : r = [] ∨ S r := by
  induction h with
  | stop h => exact h
  | step _ _ _ _ ih => exact ih

theorem open_short {W : List (List Int × Int)} {ps : List (List Int)} (hps : Nodes W ps) {r : List Int} (h : OpenP ps r) : ∃ p ∈ W, r.length < p.1.length := by
  obtain ⟨_, k, hk⟩ := h
  rcases (hps _).mp hk with e | ⟨p, hp, j, hj, e⟩
  · exact absurd e (by simp)
  · refine ⟨p, hp, ?_⟩
    have := congrArg List.length e
    rw [List.length_append, List.length_take] at this
    simp only [List.length_cons, List.length_nil] at this
    omega

/-- what a feeder has told and holds after gs -/
structure Fed (W : List (List Int × Int)) (gs out r : List Int) : Prop where
  suf : ∃ m, m ≤ gs.length ∧ r = gs.drop m
  run : ∀ {t o : List Int}, Drain NoStop (EvOf W) (r ++ t) o [] → Drain NoStop (EvOf W) (gs ++ t) (out ++ o) []
theorem Fed.nil (W : List (List Int × Int)) : Fed W [] [] [] := ⟨⟨0, Nat.le_refl _, rfl⟩, fun h => h⟩
theorem Fed.step {W : List (List Int × Int)} {ps : List (List Int)} (hps : Nodes W ps) {gs out r o r' : List Int} {k : Int} (F : Fed W gs out r) (h : Drain (OpenP ps) (EvOf W) (r ++ [k]) o r') : Fed W (gs ++ [k]) (out ++ o) r' := by
  obtain ⟨m, hm, e⟩ := F.suf
  obtain ⟨m', hm', e'⟩ := drain_suffix h
  refine ⟨⟨m + m', ?_, ?_⟩, fun {t o2} h2 => ?_⟩
  · rw [e, List.length_append, List.length_drop] at hm'
    rw [List.length_append]
    simp only [List.length_cons, List.length_nil] at hm' ⊢
    omega
  · rw [e', e, ← List.drop_append_of_le_length hm, List.drop_drop]
  · have h3 := drain_app hps h h2
    rw [List.append_assoc] at h3
    have h4 := F.run h3
    rw [← List.append_assoc, ← List.append_assoc] at h4
    simpa [List.append_assoc] using h4
theorem Fed.total {W : List (List Int × Int)} {gs out r fin R : List Int} (F : Fed W gs out r) (h : Drain NoStop (EvOf W) r fin []) (hR : Drain NoStop (EvOf W) gs R []) : out ++ fin = R := by
  have := F.run (t := []) (by rw [List.append_nil]; exact h)
  rw [List.append_nil] at this
  exact drain_det this hR
theorem Fed.front {W : List (List Int × Int)} (hne : ∀ q e, EvOf W q = some e → e ≠ -1) {gs out r R : List Int} (F : Fed W gs out r) (hR : Drain NoStop (EvOf W) gs R []) : R.take out.length = out := by
  obtain ⟨o, ho⟩ := drain_ex hne r.length r (Nat.le_refl _)
  rw [← F.total ho hR, List.take_left']
  rfl
theorem Fed.short {W : List (List Int × Int)} {ps : List (List Int)} (hps : Nodes W ps) {most : Int} (h1 : 1 ≤ most) (hm : ∀ p ∈ W, (p.1.length : Int) ≤ most) {gs o r : List Int} (h : Drain (OpenP ps) (EvOf W) gs o r) : (r.length : Int) < most := by
  rcases drain_end h with e | e
  · rw [e]; show ((0 : Nat) : Int) < most; omega
  · obtain ⟨p, hp, hl⟩ := open_short hps e
    have := hm p hp
    omega
theorem Fed.held {W : List (List Int × Int)} {gs out r : List Int} (F : Fed W gs out r) : gs.drop (gs.length - r.length) = r := by
  obtain ⟨m, hm, e⟩ := F.suf
  rw [e, List.length_drop]
  congr 1
  omega
end Mine

open PySem PySem.W PySem.Calls PyProof.Rows
set_option Elab.async false
namespace Mine
theorem freshFeedL : True := by w_top off; trivial
theorem fed_led {w : World} {g h h' : Heap} {L f t fl : Addr} {m : Str → Option Value} {X X' : FD} {r : List Int} {fvs : List Value} {ef : Nat} {rest : List (Addr × Obj)} (F : Fr g L h m) (N : News g L h (X.objs w f t ++ rest))
    (hap : ∀ p ∈ X.objs w f t, ∀ q ∈ rest, @Ne Nat p.1 q.1) (FF : FeederAt w h' f t X' r) (ed : X'.dx = X.dx) (hhl : X'.hl = X.hl ∨ h.get? X'.hl = none) (hfl : h'.get? fl = some (listOf fvs.toArray ef)) (fr : h.get? fl = none) (hne : fl ≠ X'.hl)
    (keep : ∀ b o, b ≠ X.dx → b ≠ X.hl → h.get? b = some o → h'.get? b = some o) :
    Fr g L h' m ∧ News g L h' (X'.objs w f t ++ (fl, listOf fvs.toArray ef) :: rest) ∧ (∀ p ∈ X'.objs w f t, ∀ q ∈ (fl, listOf fvs.toArray ef) :: rest, @Ne Nat p.1 q.1) := by
  have NX : News g L h (X.objs w f t) := news_sub N fun q hq => List.mem_append_left _ hq
  have mf : (f, instObj 115 X.dx) ∈ X.objs w f t := List.Mem.head _
  obtain ⟨od, md⟩ : ∃ od, (X.dx, od) ∈ X.objs w f t := ⟨_, List.mem_cons_of_mem _ (List.Mem.head _)⟩
  have ml : (X.hl, listOf X.vs.toArray X.e) ∈ X.objs w f t := List.mem_cons_of_mem _ (List.mem_cons_of_mem _ (List.Mem.head _))
  have present : ∀ q ∈ (X.objs w f t ++ rest), h.get? q.1 = some q.2 := fun q hq => (N q hq).1
  have F' : Fr g L h' m := fr_call F NX fun b o hb e => keep b o (fun z => hb (List.mem_map.mpr ⟨_, md, z.symm⟩)) (fun z => hb (List.mem_map.mpr ⟨_, ml, z.symm⟩)) e
  have hX'hl : ∀ q ∈ rest, @Ne Nat X'.hl q.1 := fun q hq z => by
    rcases hhl with e | e
    · rw [e] at z; exact hap _ ml q hq z
    · have := present q (List.mem_append_right _ hq)
      rw [← z, e] at this; cases this
  have cases3 : ∀ {C : Addr → Prop}, C f → C X.dx → C X'.hl → ∀ p ∈ X'.objs w f t, C p.1 := fun {C} a b c p hp => by
    simp only [FD.objs, List.mem_cons, List.not_mem_nil, or_false] at hp
    rcases hp with rfl | rfl | rfl
    · exact a
    · show C X'.dx; rw [ed]; exact b
    · exact c
  refine ⟨F', fun q hq => ?_, fun p hp q hq => ?_⟩
  · rcases List.mem_append.mp hq with hq | hq
    · refine ⟨FF.at_ q hq, ?_⟩
      refine cases3 (C := fun a => a ≠ L ∧ g.get? a = none) (NX _ mf).2 (NX _ md).2 ?_ q hq
      rcases hhl with e | e
      · rw [e]; exact (NX _ ml).2
      · exact fr_new F e
    · rcases List.mem_cons.mp hq with rfl | hq
      · exact ⟨hfl, fr_new F fr⟩
      · exact ⟨keep _ _ (fun z => hap _ md q hq z.symm) (fun z => hap _ ml q hq z.symm) (present q (List.mem_append_right _ hq)), (N q (List.mem_append_right _ hq)).2⟩
  · rcases List.mem_cons.mp hq with rfl | hq
    · refine cases3 (C := fun a => @Ne Nat a fl) (fun z => ?_) (fun z => ?_) (fun z => hne z.symm) p hp
      · have := (NX _ mf).1
        dsimp only at this
        rw [z, fr] at this; cases this
      · have := (NX _ md).1
        dsimp only at this
        rw [z, fr] at this; cases this
    · exact cases3 (C := fun a => @Ne Nat a q.1) (hap _ mf q hq) (hap _ md q hq) (hX'hl q hq) p hp

theorem feed_led {w : World} {A : Around} {s : Shared} {g h₁ : Heap} {L f t : Addr} {m : Str → Option Value} {X : FD} {D : TD} {ps : List (List Int)} {Ev : List Int → Option Int} {gs : List Int} {k : Int} {tkg : Tok} {rest : List (Addr × Obj)} {Q : Value → Shared → Prop} {E : Value → Shared → Prop}
    (ok : Ok 7 A) (G : Gc w g) (TP : TrieAt w h₁ t D ps Ev) (hne : ∀ q e, Ev q = some e → e ≠ -1) (F : Fr g L s.heap m) (N : News g L s.heap (X.objs w f t ++ rest)) (hD : ∀ q ∈ D.objs w t, q ∈ rest) (hX : IntsAre X.vs gs)
    (hap : ∀ p ∈ X.objs w f t, ∀ q ∈ rest, @Ne Nat p.1 q.1) (hsz : gs.length < 1000)
    (h : ∀ (X' : FD) (fl : Addr) (fvs : List Value) (ef : Nat) (out r : List Int) (h' : Heap) (tk' : Nat), X'.dx = X.dx → IntsAre X'.vs r → IntsAre fvs out → Drain (OpenP ps) Ev (gs ++ [k]) out r → s.heap.get? fl = none → Fr g L h' m → News g L h' (X'.objs w f t ++ (fl, listOf fvs.toArray ef) :: rest) →
      (∀ p ∈ X'.objs w f t, ∀ q ∈ (fl, listOf fvs.toArray ef) :: rest, @Ne Nat p.1 q.1) → Q (.ref fl) { s with heap := h', toks := tk' }) :
    wpAny (model PySem.Challenge.rw_pb0154_01.row.prog w) A (call (.ref 105) [.ref f, .int k tkg]) Q E s := by
  refine feed_spec ok G F.keep (D := D) (ps := ps) (Ev := Ev) (X := X) (gs := gs) ⟨fun p hp => (N p (List.mem_append_right _ (hD p hp))).1, TP.2⟩ (fun p hp => (N p (List.mem_append_right _ (hD p hp))).2.2) hne ⟨fun p hp => (N p (List.mem_append_left _ hp)).1, hX⟩ (fun p hp => (N p (List.mem_append_left _ hp)).2.2)
    (fun p hp hm => ?_) hsz (fun X' fl fvs ef out r h' tk' FF ed hhl hfl hfv hdr hfr hfx keep => ?_)
  · obtain ⟨q, hq, e⟩ := List.mem_map.mp hm
    exact hap p hp q (hD q hq) e.symm
  · obtain ⟨a, b, c⟩ := fed_led F N hap FF ed hhl hfl hfr hfx keep
    exact h X' fl fvs ef out r h' tk' ed FF.nums hfv hdr hfr a b c

theorem finish_led {w : World} {A : Around} {s : Shared} {g h₁ : Heap} {L f t : Addr} {m : Str → Option Value} {X : FD} {D : TD} {ps : List (List Int)} {Ev : List Int → Option Int} {gs : List Int} {rest : List (Addr × Obj)} {Q : Value → Shared → Prop} {E : Value → Shared → Prop}
    (ok : Ok 7 A) (G : Gc w g) (TP : TrieAt w h₁ t D ps Ev) (hne : ∀ q e, Ev q = some e → e ≠ -1) (F : Fr g L s.heap m) (N : News g L s.heap (X.objs w f t ++ rest)) (hD : ∀ q ∈ D.objs w t, q ∈ rest) (hX : IntsAre X.vs gs)
    (hap : ∀ p ∈ X.objs w f t, ∀ q ∈ rest, @Ne Nat p.1 q.1) (hsz : gs.length < 1000)
    (h : ∀ (X' : FD) (fl : Addr) (fvs : List Value) (ef : Nat) (out r : List Int) (h' : Heap) (tk' : Nat), X'.dx = X.dx → IntsAre X'.vs r → IntsAre fvs out → Drain (fun _ => False) Ev gs out r → s.heap.get? fl = none → Fr g L h' m → News g L h' (X'.objs w f t ++ (fl, listOf fvs.toArray ef) :: rest) →
      (∀ p ∈ X'.objs w f t, ∀ q ∈ (fl, listOf fvs.toArray ef) :: rest, @Ne Nat p.1 q.1) → Q (.ref fl) { s with heap := h', toks := tk' }) :
    wpAny (model PySem.Challenge.rw_pb0154_01.row.prog w) A (call (.ref 112) [.ref f]) Q E s := by
  refine finish_spec ok G F.keep (D := D) (ps := ps) (Ev := Ev) (X := X) (gs := gs) ⟨fun p hp => (N p (List.mem_append_right _ (hD p hp))).1, TP.2⟩ (fun p hp => (N p (List.mem_append_right _ (hD p hp))).2.2) hne ⟨fun p hp => (N p (List.mem_append_left _ hp)).1, hX⟩ (fun p hp => (N p (List.mem_append_left _ hp)).2.2)
    (fun p hp hm => ?_) hsz (fun X' fl fvs ef out r h' tk' FF ed hhl hfl hfv hdr hfr hfx keep => ?_)
  · obtain ⟨q, hq, e⟩ := List.mem_map.mp hm
    exact hap p hp q (hD q hq) e.symm
  · obtain ⟨a, b, c⟩ := fed_led F N hap FF ed hhl hfl hfr hfx keep
    exact h X' fl fvs ef out r h' tk' ed FF.nums hfv hdr hfr a b c
end Mine

open PySem PySem.W PySem.Calls PyProof.Rows
set_option Elab.async false
set_option maxRecDepth 100000
namespace Mine
theorem freshComp2F : True := by w_top off; trivial
section
variable {prog : Program} {w : World} {A : Around} {s : Shared} {env : Env} {g : Heap}

abbrev comp2 (elt t0 i0 t1 i1 : Expr) (scope : Scope) (pos : Pos) : Expr := .ListComp elt [⟨t0, i0, [], 0⟩, ⟨t1, i1, [], 0⟩] scope pos

theorem turn_two0 (elt t0 i0 t1 i1 : Expr) (scope : Scope) (pos : Pos) (it acc : Value) (env : Env) :
    compTurn (comp2 elt t0 i0 t1 i1 scope pos) 0 it acc env = (do
      standAt i0.pos
      match ← pyNext it with
      | none => pure (.done .next)
      | some v =>
        letOwnedTupleGo t0 it v
        assign t0 env v
        let mut ok := true
        for c in ([] : List Expr) do
          if ok then ok ← isTrue c env (eval c env)
        if ok then
          let x ← eval i1 env
          standAt i1.pos
          let x ← foldedSetIterable i1 env x
          let _ ← runOwn (.compStart (comp2 elt t0 i0 t1 i1 scope pos) 1 (← holding [x] (pyIter x)) acc env) env
        again (.compLoop (comp2 elt t0 i0 t1 i1 scope pos) 0 it acc env)) := by rfl

theorem turn_two1 (elt t0 i0 t1 i1 : Expr) (scope : Scope) (pos : Pos) (it acc : Value) (env : Env) :
    compTurn (comp2 elt t0 i0 t1 i1 scope pos) 1 it acc env = (do
      standAt i1.pos
      match ← pyNext it with
      | none => pure (.done .next)
      | some v =>
        letOwnedTupleGo t1 it v
        assign t1 env v
        let mut ok := true
        for c in ([] : List Expr) do
          if ok then ok ← isTrue c env (eval c env)
        if ok then
          (do let _ ← call (.builtin "list.append") [acc, ← eval elt env])
        again (.compLoop (comp2 elt t0 i0 t1 i1 scope pos) 1 it acc env)) := by rfl

theorem start_two {elt t0 i0 t1 i1 : Expr} {scope : Scope} {pos : Pos} {it acc : Value} {env : Env} {R : Result → Shared → Prop}
    (h0 : codeAny (model prog w) A (.compLoop (comp2 elt t0 i0 t1 i1 scope pos) 1 it acc env) R s)
    (h : wpAny (model prog w) A (pyIter it) (fun it' s' => codeAny (model prog w) A (.compLoop (comp2 elt t0 i0 t1 i1 scope pos) 1 it' acc env) R s')
      (fun _ _ => False) s) :
    codeAny (model prog w) A (.compStart (comp2 elt t0 i0 t1 i1 scope pos) 1 it acc env) R s := by
  refine codeAny_of_tree ?_
  show wpAny _ _ ((compStart (comp2 elt t0 i0 t1 i1 scope pos) 1 it acc env).onRaise (fun x => do noteFrame x env; standAt theWindowsPlace)) _ _ s
  refine wpAny_notedAt ?_
  unfold compStart
  show wpAny _ _ (ask >>= _) _ _ s
  refine wpAny_bind (wpAny_askSetting (wpAny_ite ?_))
  split
  · first
      | exact wpAny_bind (wpAny_pure (wpAny_pure (And.intro rfl h0)))
      | exact wpAny_pure (And.intro rfl h0)
  · refine wpAny_bind (wpAny_rule ?_)
    show wpAny _ _ (standAt i1.pos >>= _) _ _ s
    exact wpAny_bind (wpAny_standAt (wpAny_bind (wpAny_mono h (fun it' s' h' => wpAny_pure (And.intro rfl h')) fun _ _ x => x.elim)))

theorem loop_two0 {elt t0 i0 t1 i1 : Expr} {scope : Scope} {pos : Pos} {it acc : Value} {env : Env} {R : Result → Shared → Prop} (I : Nat → Shared → Prop) (hs : ∀ x, foldedSetIterable i1 env x = pure x)
    (turn : ∀ n s, I n s → wpAny (model prog w) A (pyNext it) (fun r s₁ => match r with
      | none => R (.ok .next) s₁
      | some v => wpAny (model prog w) A (letOwnedTupleGo t0 it v) (fun _ s₀ => wpAny (model prog w) A (assign t0 env v) (fun _ s₂ =>
          wpAny (model prog w) A (eval i1 env) (fun x s₄ =>
            wpAny (model prog w) A (pyIter x) (fun it' s₅ => codeAny (model prog w) A (.compStart (comp2 elt t0 i0 t1 i1 scope pos) 1 it' acc env) (fun r s₆ => r = .ok .next ∧ ∃ m, m < n ∧ I m s₆) s₅) (fun _ _ => False) s₄) (fun _ _ => False) s₂)
          (fun _ _ => False) s₀) (fun _ _ => False) s₁) (fun _ _ => False) s)
    (n : Nat) (h : I n s) : codeAny (model prog w) A (.compLoop (comp2 elt t0 i0 t1 i1 scope pos) 0 it acc env) R s := by
  refine codeAny_loop rfl I (fun n s hI => ?_) n h
  show wpAny _ A ((compTurn (comp2 elt t0 i0 t1 i1 scope pos) 0 it acc env).onRaise (fun x => do noteFrame x env; theTreesLotGoes x)) _ _ s
  refine wpAny_noted ?_
  rw [turn_two0]
  refine wpAny_bind (wpAny_standAt (wpAny_bind (wpAny_mono (turn n s hI) (fun r s₁ h₁ => ?_) fun _ _ h' => h'.elim)))
  cases r with
  | none => exact wpAny_pure h₁
  | some v =>
    refine wpAny_bind (wpAny_mono h₁ (fun _ s₀ h₀' => ?_) fun _ _ h' => h'.elim)
    refine wpAny_bind (wpAny_mono h₀' (fun _ s₂ h₂ => ?_) fun _ _ h' => h'.elim)
    refine wpAny_bind (wpAny_pure ?_)
    refine wpAny_bind (wpAny_mono h₂ (fun x s₄ h₄ => ?_) fun _ _ h' => h'.elim)
    refine wpAny_bind (wpAny_standAt (wpAny_bind ?_))
    rw [hs]
    refine wpAny_pure (wpAny_bind (wpAny_holding (wpAny_mono h₄ (fun it' s₅ h₅ => ?_) fun _ _ h' => h'.elim)))
    refine wpAny_bind (wpAny_runOwn (codeAny_mono h₅ (fun r s₆ h₆ => ?_)))
    obtain ⟨rfl, h₆⟩ := h₆
    exact wpAny_pure ⟨rfl, h₆⟩

theorem loop_two1 {elt t0 i0 t1 i1 : Expr} {scope : Scope} {pos : Pos} {it acc : Value} {env : Env} {R : Result → Shared → Prop} (I : Nat → Shared → Prop)
    (turn : ∀ n s, I n s → wpAny (model prog w) A (pyNext it) (fun r s₁ => match r with
      | none => R (.ok .next) s₁
      | some v => wpAny (model prog w) A (letOwnedTupleGo t1 it v) (fun _ s₀ => wpAny (model prog w) A (assign t1 env v) (fun _ s₂ =>
          wpAny (model prog w) A (eval elt env) (fun x s₄ =>
            wpAny (model prog w) A (call (.builtin "list.append") [acc, x]) (fun _ s₅ => ∃ m, m < n ∧ I m s₅) (fun _ _ => False) s₄) (fun _ _ => False) s₂)
          (fun _ _ => False) s₀) (fun _ _ => False) s₁) (fun _ _ => False) s)
    (n : Nat) (h : I n s) : codeAny (model prog w) A (.compLoop (comp2 elt t0 i0 t1 i1 scope pos) 1 it acc env) R s := by
  refine codeAny_loop rfl I (fun n s hI => ?_) n h
  show wpAny _ A ((compTurn (comp2 elt t0 i0 t1 i1 scope pos) 1 it acc env).onRaise (fun x => do noteFrame x env; theTreesLotGoes x)) _ _ s
  refine wpAny_noted ?_
  rw [turn_two1]
  refine wpAny_bind (wpAny_standAt (wpAny_bind (wpAny_mono (turn n s hI) (fun r s₁ h₁ => ?_) fun _ _ h' => h'.elim)))
  cases r with
  | none => exact wpAny_pure h₁
  | some v =>
    refine wpAny_bind (wpAny_mono h₁ (fun _ s₀ h₀' => ?_) fun _ _ h' => h'.elim)
    refine wpAny_bind (wpAny_mono h₀' (fun _ s₂ h₂ => ?_) fun _ _ h' => h'.elim)
    refine wpAny_bind (wpAny_pure ?_)
    exact wpAny_bind (wpAny_bind (wpAny_mono h₂ (fun x s₄ h₄ => wpAny_bind (wpAny_mono h₄ (fun _ s₅ h₅ => wpAny_pure (wpAny_pure ⟨rfl, h₅⟩)) fun _ _ h' => h'.elim)) fun _ _ h' => h'.elim))

theorem inner_two {R : Result → Shared → Prop} {E : Value → Shared → Prop} {x1 : Str} {pe p1 : Pos} {t0 i0 i1 : Expr} {scope : Scope} {pos : Pos} {fl D : Addr} {zs ys : List Value} {ef e : Nat} {mc : Str → Option Value} {news : List (Addr × Obj)} (hh : A.handled = none)
    (hk : env.scope.kind = .function) (hx : env.kindOf x1 = some .local) (hdb : (x1 == ("__debug__" : Str)) = false) (hp : (env.scope.kind == .class || (env.scope.kind == .module && env.locals != env.globals)) = false)
    (hl : s.heap.get? fl = some (listOf zs.toArray ef)) (hflD : fl ≠ D) (hflC : fl ≠ env.locals) (F : Fr g env.locals s.heap mc) (N : News g env.locals s.heap (news ++ [(D, listOf ys.toArray e)])) (hn : ∀ p ∈ news, p.1 ≠ D) (hsz : ys.length + zs.length ≤ sizeLine)
    (h : ∀ h' tk mc' e', Fr g env.locals h' mc' → News g env.locals h' (news ++ [(D, listOf (ys ++ zs).toArray e')]) → (∀ b o, b ≠ env.locals → b ≠ D → s.heap.get? b = some o → h'.get? b = some o) → R (.ok .next) { s with heap := h', toks := tk }) :
    wpAny (model prog w) A (pyIter (.ref fl)) (fun it s' => codeAny (model prog w) A (.compStart (comp2 (.Name x1 pe) t0 i0 (.Name x1 p1) i1 scope pos) 1 it (.ref D) env) R s') E s := by
  refine wpAny_pyIter_list (isList_of hl) ?_
  have ltf : fl < s.heap.objs.size := Heap.lt_size hl
  have hne : fl ≠ s.heap.objs.size := Nat.ne_of_lt ltf
  have W := Walks.list (prog := prog) (w := w) hh s.heap.objs.size fl hne zs.toArray
  have fresh : s.heap.get? s.heap.objs.size = none := none_of_size (Nat.le_refl _)
  have hND := N (D, listOf ys.toArray e) (List.mem_append_right _ (List.Mem.head _))
  have hID : s.heap.objs.size ≠ D := Nat.ne_of_gt (Heap.lt_size hND.1)
  have hIC : s.heap.objs.size ≠ env.locals := Nat.ne_of_gt F.ns.lt
  have hgI : g.get? s.heap.objs.size = none := none_of_stays (fun b o e => F.keep b o e) fresh
  have loop : ∀ s₃ : Shared, s₃ = { s with heap := s.heap.push { cls := .type "list_iterator", data := .fields #[.ref fl, rawInt 0] } } →
      codeAny (model prog w) A (.compLoop (comp2 (.Name x1 pe) t0 i0 (.Name x1 p1) i1 scope pos) 1 (.ref s.heap.objs.size) (.ref D) env) R s₃ := by
    rintro s₃ rfl
    refine loop_two1 (fun k s' => ∀ GG : Prop, (∀ h' tk mc' j e', s' = { s with heap := h', toks := tk } → (h'.IsListIter s.heap.objs.size fl j ∧ h'.IsList fl zs.toArray) → Fr g env.locals h' mc' → News g env.locals h' (news ++ [(D, listOf (ys ++ zs.take j).toArray e')]) → (∀ b o, b ≠ env.locals → b ≠ D → s.heap.get? b = some o → h'.get? b = some o) → j ≤ zs.length → k = zs.length + 1 - j → GG) → GG) ?_ (zs.length + 1)
      (fun GG kk => kk _ s.toks mc 0 e rfl ⟨⟨_, Heap.get?_push_size _ rfl, rfl, rfl⟩, (isList_of hl).at fun o e => Heap.get?_push_of_some _ e⟩ (F.push _) (fun p hp => ⟨Heap.get?_push_of_some _ (N p (by simpa using hp)).1, (N p (by simpa using hp)).2⟩) (fun b o _ _ e => Heap.get?_push_of_some _ e) (Nat.zero_le _) rfl)
    intro k s' hI9
    refine hI9 _ ?_
    clear hI9
    rintro h' tk mc' j e' rfl hst' F' N' hkeep hj rfl
    have next : ∀ h₂ : Heap, (∀ b o, b ∉ [s.heap.objs.size] → h'.get? b = some o → h₂.get? b = some o) → Fr g env.locals h₂ mc' ∧ News g env.locals h₂ (news ++ [(D, listOf (ys ++ zs.take j).toArray e')]) ∧ (∀ b o, b ≠ env.locals → b ≠ D → s.heap.get? b = some o → h₂.get? b = some o) := fun h₂ hk₂ => by
      have hk : ∀ b o, b ≠ s.heap.objs.size → h'.get? b = some o → h₂.get? b = some o := fun b o hb e => hk₂ b o (by simpa using hb) e
      refine ⟨⟨F'.ns.at' fun o e => hk _ o (Ne.symm hIC) e, fun b o e => hk b o (fun q => ?_) (F'.keep b o e), F'.above⟩, fun p hp => ⟨hk _ _ (fun q => ?_) (N' p hp).1, (N' p hp).2⟩, fun b o b1 b2 e => hk b o (fun q => ?_) (hkeep b o b1 b2 e)⟩
      · rw [q, hgI] at e; cases e
      · rcases List.mem_append.mp hp with hp | hp
        · have := (N p (List.mem_append_left _ hp)).1
          rw [q, fresh] at this; cases this
        · rw [List.mem_singleton.mp hp] at q; exact hID q.symm
      · rw [q, fresh] at e; cases e
    by_cases hlt : j < zs.length
    · refine W.item j _ _ _ (by simpa using hlt) hst' fun v h₂ tk₂ hP hst₂ hk₂ => ?_
      have hv : zs[j]? = some v := by simpa using hP
      obtain ⟨F₂, N₂, K₂⟩ := next h₂ hk₂
      refine letGo_listiter hst₂.1 ?_
      refine assign_name hx hp F₂ N₂ fun h₃ F₃ N₃ hs₃ => ?_
      refine comp_name hk hx F₃ (if_pos rfl) hdb ?_
      have hDm := N₃ (D, listOf (ys ++ zs.take j).toArray e') (List.mem_append_right _ (List.Mem.head _))
      have htk : (zs.take j).length = j := by rw [List.length_take]; omega
      refine append_at hDm.1 (fun h₅ hs₅ hl₅ => ?_) (by rw [List.size_toArray, List.length_append, htk]; omega)
      rw [List.push_toArray] at hl₅
      refine ⟨zs.length + 1 - (j + 1), by omega, fun GG kk => kk h₅ _ _ (j + 1) (e' + 1) rfl ?_ (F₃.change hs₅ hDm.2.1 hDm.2.2) (fun p hp => ?_) (fun b o b1 b2 e => (hs₅.2 _ b2).trans ((hs₃.2 _ b1).trans (K₂ b o b1 b2 e))) hlt rfl⟩
      · have step : ∀ b o, b ≠ env.locals → b ≠ D → h₂.get? b = some o → h₅.get? b = some o := fun b o b1 b2 e => (hs₅.2 _ b2).trans ((hs₃.2 _ b1).trans e)
        exact ⟨hst₂.1.at fun o e => step _ o hIC hID e, hst₂.2.at fun o e => step _ o hflC hflD e⟩
      · rcases List.mem_append.mp hp with hp | hp
        · have := N₃ p (List.mem_append_left _ hp)
          exact ⟨(hs₅.2 _ (hn p hp)).trans this.1, this.2⟩
        · rw [List.mem_singleton.mp hp]
          rw [List.take_add_one, hv, ← List.append_assoc]
          exact ⟨hl₅, hDm.2⟩
    · have hin : j = zs.length := by omega
      subst hin
      refine W.done _ _ _ (by simpa using hst') fun h₂ tk₂ hk₂ => ?_
      obtain ⟨F₂, N₂, K₂⟩ := next h₂ hk₂
      rw [List.take_length] at N₂
      exact h h₂ tk₂ mc' e' F₂ N₂ K₂
  exact start_two (loop _ rfl) (W.self 0 _ _ _ ⟨⟨_, Heap.get?_push_size _ rfl, rfl, rfl⟩, (isList_of hl).at fun o e => Heap.get?_push_of_some _ e⟩ (loop _ rfl))

theorem compW2 {E : Value → Shared → Prop} {RR : Value → Addr → Result → Shared → Prop} {x1 : Str} {pe p1 : Pos} {t0 iter i1 : Expr} {scope : Scope} {cl : List (Str × Addr)} {pos : Pos} {ax I : Addr} {vs : List Value} {e : Nat} {m : Str → Option Value} {news₀ : List (Addr × Obj)}
    (hh : A.handled = none) (hgI : g.get? I = none) (hLI : env.locals ≠ I) (hit : s.heap.IsListIter I ax 0) (hnw : ∀ p ∈ news₀, p.1 ≠ I) (haI : ax ≠ I) (hl : s.heap.get? ax = some (listOf vs.toArray e)) (hcell : ∀ y ∈ scope.names, y.2 ≠ .cell) (hkind : scope.kind = .function)
    (hx : ∀ C, (compEnvC scope cl C env).kindOf x1 = some .local) (hdb : (x1 == ("__debug__" : Str)) = false) (hk : ∀ C, (compEnvC scope cl C env).scope.kind = .function)
    (hp : ∀ C, ((compEnvC scope cl C env).scope.kind == .class || ((compEnvC scope cl C env).scope.kind == .module && (compEnvC scope cl C env).locals != (compEnvC scope cl C env).globals)) = false)
    (hs : ∀ C x, foldedSetIterable i1 (compEnvC scope cl C env) x = pure x)
    (F : Fr g env.locals s.heap m) (N : News g env.locals s.heap news₀)
    (J : Nat → List Value → List (Addr × Obj) → Prop) (h0 : J 0 [] news₀)
    (turn : ∀ C D i v ys e' mc news₁ h tk oI oL, vs[i]? = some v → J i ys news₁ → s.heap.get? C = none → s.heap.get? D = none → D ≠ C → (∀ p ∈ news₁, p.1 ≠ I ∧ p.1 ≠ D ∧ p.1 ≠ env.locals) → h.get? ax = some (listOf vs.toArray e) → Fr g C h mc → News g C h (news₁ ++ [(I, oI), (D, listOf ys.toArray e'), (env.locals, oL)]) →
      wpAny (model prog w) A (assign t0 (compEnvC scope cl C env) v) (fun _ s₁ => wpAny (model prog w) A (eval i1 (compEnvC scope cl C env)) (fun x s₂ =>
        ∃ (fl : Addr) (zs : List Value) (ef : Nat) (h' : Heap) (tk' : Nat) (mc' : Str → Option Value) (news' : List (Addr × Obj)), x = .ref fl ∧ s₂ = { s with heap := h', toks := tk' } ∧ Fr g C h' mc' ∧ News g C h' (news' ++ [(I, oI), (D, listOf ys.toArray e'), (env.locals, oL)]) ∧
          (∀ p ∈ news', p.1 ≠ I ∧ p.1 ≠ D ∧ p.1 ≠ env.locals) ∧ h'.get? ax = some (listOf vs.toArray e) ∧ (fl, listOf zs.toArray ef) ∈ news' ∧ ys.length + zs.length ≤ sizeLine ∧ J (i + 1) (ys ++ zs) news') (fun _ _ => False) s₁) (fun _ _ => False) { s with heap := h, toks := tk })
    (done : ∀ C D h' tk ys e' mc news', J vs.length ys news' → s.heap.get? C = none → s.heap.get? D = none → D ≠ C → h'.Ns C mc → (∀ p ∈ news', p.1 ≠ C) → (∀ p ∈ news', p.1 ≠ D) → Fr g env.locals h' m → News g env.locals h' (news' ++ [(D, listOf ys.toArray e')]) → h'.get? ax = some (listOf vs.toArray e) → RR (.ref D) C (.ok .next) { s with heap := h', toks := tk }) :
    wpAny (model prog w) A (newList []) (fun acc s₃ => wpAny (model prog w) A (newFunctionEnv scope env.globals cl [] env.qual none .none (some env)) (fun cenv s₄ =>
      codeAny (model prog w) A (.compStart (comp2 (.Name x1 pe) t0 iter (.Name x1 p1) i1 scope pos) 0 (.ref I) acc { cenv with scope := relabel scope env }) (RR acc cenv.locals) s₄) E s₃) E s := by
  have W := Walks.list (prog := prog) (w := w) hh I ax haI vs.toArray
  refine wpAny_newObj_type (wpAny_newFunctionEnv hcell (by intro y hy; simp at hy) (fun h₁ hns₁ hsb₁ => ?_) hkind)
  dsimp only at hns₁ hsb₁ ⊢
  generalize hH2 : s.heap.push { cls := .type "list", dict := none, data := .seq ([] : List Value).toArray } = H2 at hns₁ hsb₁ ⊢
  have hC : H2.objs.size = s.heap.objs.size + 1 := by rw [← hH2, Heap.size_push]
  have hDC : s.heap.objs.size ≠ H2.objs.size := by rw [hC]; exact Nat.ne_of_lt (Nat.lt_succ_self _)
  have below : ∀ b, b < s.heap.objs.size → b ≠ H2.objs.size ∧ b ≠ s.heap.objs.size := fun b hb => ⟨by rw [hC]; exact Nat.ne_of_lt (Nat.lt_succ_of_lt hb), Nat.ne_of_lt hb⟩
  have old : s.heap.StaysIn h₁ := fun b o e => hsb₁.extBut b o (below b (Heap.lt_size e)).1 (Heap.get?_push_of_some _ (hH2 ▸ Heap.get?_push_of_some _ e))
  have freshD : s.heap.get? s.heap.objs.size = none := none_of_size (Nat.le_refl _)
  have freshC : s.heap.get? H2.objs.size = none := none_of_size (by rw [hC]; exact Nat.le_succ _)
  have hacc : h₁.get? s.heap.objs.size = some (listOf #[] 0) := hsb₁.extBut _ _ hDC (Heap.get?_push_of_some _ (hH2 ▸ Heap.get?_push_size _ rfl))
  obtain ⟨oL, esL, epL, hoL, rL⟩ := id F.ns
  have nL : ∀ h' : Heap, h'.get? env.locals = some oL → h'.Ns env.locals m := fun h' e => ⟨oL, esL, epL, e, rL⟩
  have ltL : env.locals < s.heap.objs.size := Heap.lt_size hoL
  have ltI : I < s.heap.objs.size := by obtain ⟨o, ho, _⟩ := id hit; exact Heap.lt_size ho
  have ltax : ax < s.heap.objs.size := Heap.lt_size hl
  generalize hCn : H2.objs.size = C at *
  generalize hDn : s.heap.objs.size = D at *
  have gC : g.get? C = none := none_of_stays (fun b o e => F.keep b o e) freshC
  have gD : g.get? D = none := none_of_stays (fun b o e => F.keep b o e) freshD
  have gL : g.get? env.locals = none := none_of_size F.above
  have gI := hgI
  have hIC : I ≠ C := (below I ltI).1
  have hID : I ≠ D := (below I ltI).2
  have hLC : env.locals ≠ C := (below _ ltL).1
  have hLD : env.locals ≠ D := (below _ ltL).2
  have haC : ax ≠ C := (below _ ltax).1
  have haD : ax ≠ D := (below _ ltax).2
  have gle : g.objs.size ≤ C := Nat.le_trans F.above (by rw [hC]; exact Nat.le_of_lt (Nat.lt_succ_of_lt ltL))
  have st0 : h₁.IsListIter I ax 0 ∧ h₁.IsList ax vs.toArray := ⟨hit.at fun o e => old _ _ e, (isList_of hl).at fun o e => old _ _ e⟩
  have loop : ∀ s₃ : Shared, s₃ = { s with heap := h₁, toks := s.toks + ([] : List (Str × Value)).length } →
      codeAny (model prog w) A (.compLoop (comp2 (.Name x1 pe) t0 iter (.Name x1 p1) i1 scope pos) 0 (.ref I) (.ref D) (compEnvC scope cl C env)) (RR (.ref D) C) s₃ := by
    rintro s₃ rfl
    refine loop_two0 (fun k s' => ∀ GG : Prop, (∀ h' tk mc news' i ys e', s' = { s with heap := h', toks := tk } → (h'.IsListIter I ax i ∧ h'.IsList ax vs.toArray) → Fr g C h' mc → h'.get? D = some (listOf (ys : List Value).toArray e') → h'.get? env.locals = some oL → News g C h' news' → (∀ p ∈ news', p.1 ≠ I ∧ p.1 ≠ D ∧ p.1 ≠ env.locals) → h'.get? ax = some (listOf vs.toArray e) → J i ys news' → i ≤ vs.length → k = vs.length + 1 - i → GG) → GG) (hs C) ?_ (vs.length + 1)
      (fun GG kk => kk h₁ _ _ news₀ 0 [] 0 rfl st0 ⟨hns₁, fun b o e => old _ _ (F.keep b o e), gle⟩ hacc (old _ _ hoL) (fun p hp => ⟨old _ _ (N p hp).1, (below _ (hDn ▸ Heap.lt_size (N p hp).1)).1, (N p hp).2.2⟩) (fun p hp => ⟨hnw p hp, (below _ (hDn ▸ Heap.lt_size (N p hp).1)).2, (N p hp).2.1⟩) (old _ _ hl) h0 (Nat.zero_le _) rfl)
    intro k s' hI9
    refine hI9 _ ?_
    clear hI9
    rintro h' tk mc news' i ys e' rfl hst' F' hD' hL' N' hnw' hd' hJ hi rfl
    have next : ∀ h₂ : Heap, (∀ b o, b ∉ [I] → h'.get? b = some o → h₂.get? b = some o) → Fr g C h₂ mc ∧ h₂.get? D = some (listOf ys.toArray e') ∧ h₂.get? env.locals = some oL ∧ News g C h₂ news' ∧ h₂.get? ax = some (listOf vs.toArray e) := fun h₂ hk₂ => by
      have hk : ∀ b o, b ≠ I → h'.get? b = some o → h₂.get? b = some o := fun b o hb e => hk₂ b o (by simpa using hb) e
      refine ⟨⟨F'.ns.at' fun o e => hk _ o (Ne.symm hIC) e, fun b o e => hk b o (fun q => ?_) (F'.keep b o e), F'.above⟩, hk _ _ (Ne.symm hID) hD', hk _ _ hLI hL', fun p hp => ⟨hk _ _ (hnw' p hp).1 (N' p hp).1, (N' p hp).2⟩, hk _ _ haI hd'⟩
      rw [q, gI] at e; cases e
    by_cases hlt : i < vs.length
    · refine W.item i _ _ _ (by simpa using hlt) hst' fun v h₂ tk₂ hP hst₂ hk₂ => ?_
      obtain ⟨F₂, D₂, L₂, N₂, d₂⟩ := next h₂ hk₂
      obtain ⟨oI, hoI, rI⟩ := id hst₂.1
      have N₃ : News g C h₂ (news' ++ [(I, oI), (D, listOf ys.toArray e'), (env.locals, oL)]) := fun p hp => by
        rcases List.mem_append.mp hp with hp | hp
        · exact N₂ p hp
        · rcases List.mem_cons.mp hp with rfl | hp
          · exact ⟨hoI, hIC, gI⟩
          · rcases List.mem_cons.mp hp with rfl | hp
            · exact ⟨D₂, hDC, gD⟩
            · rw [List.mem_singleton.mp hp]; exact ⟨L₂, hLC, gL⟩
      refine letGo_listiter hst₂.1 ?_
      refine wpAny_mono (turn C D i v ys e' mc news' h₂ tk₂ oI oL (by simpa using hP) hJ freshC freshD hDC hnw' d₂ F₂ N₃) (fun _ s₂ h₂' => wpAny_mono h₂' (fun x s₃ h₃ => ?_) fun _ _ x => x) fun _ _ x => x
      obtain ⟨fl, zs, ef, h₃', tk₃, mc₃, news₃, rfl, rfl, F₃, N₄, s₃', d₃, hfl, hsz₃, hJ₃⟩ := h₃
      have hflN := N₄ (fl, listOf zs.toArray ef) (List.mem_append_left _ hfl)
      refine inner_two (news := news₃ ++ [(I, oI), (env.locals, oL)]) (ys := ys) (e := e') hh (hk C) (hx C) hdb (hp C) hflN.1 (s₃' _ hfl).2.1 hflN.2.1 F₃ (news_sub N₄ fun q hq => ?_) (fun q hq => ?_) hsz₃ (fun h₅ tk₅ mc₅ e₅ F₅ N₅ K₅ => ⟨rfl, ?_⟩)
      · simp only [List.mem_append, List.mem_cons, List.not_mem_nil, or_false] at hq ⊢
        rcases hq with (hq | hq | hq) | hq
        · exact .inl hq
        · exact .inr (.inl hq)
        · exact .inr (.inr (.inr hq))
        · exact .inr (.inr (.inl hq))
      · rcases List.mem_append.mp hq with hq | hq
        · exact (s₃' q hq).2.1
        · simp only [List.mem_cons, List.not_mem_nil, or_false] at hq
          rcases hq with rfl | rfl
          · exact hID
          · exact hLD
      · have hI5 := (N₅ (I, oI) (by simp)).1
        refine ⟨vs.length + 1 - (i + 1), by omega, fun GG kk => kk h₅ tk₅ mc₅ news₃ (i + 1) (ys ++ zs) e₅ rfl ⟨⟨oI, hI5, rI⟩, isList_of (K₅ _ _ haC haD d₃)⟩ F₅ ((N₅ (D, listOf (ys ++ zs).toArray e₅) (by simp)).1) ((N₅ (env.locals, oL) (by simp)).1) (fun p hp => N₅ p (by simp [hp])) s₃' (K₅ _ _ haC haD d₃) hJ₃ hlt rfl⟩
    · have hin : i = vs.length := by omega
      subst hin
      refine W.done _ _ _ (by simpa using hst') fun h₂ tk₂ hk₂ => ?_
      obtain ⟨F₂, D₂, L₂, N₂, d₂⟩ := next h₂ hk₂
      refine done C D h₂ tk₂ ys e' mc news' hJ freshC freshD hDC F₂.ns (fun p hp => (N₂ p hp).2.1) (fun p hp => (hnw' p hp).2.1) ⟨nL _ L₂, fun b o e => F₂.keep b o e, F.above⟩ (fun p hp => ?_) d₂
      rcases List.mem_append.mp hp with hp | hp
      · exact ⟨(N₂ p hp).1, (hnw' p hp).2.2, (N₂ p hp).2.2⟩
      · rw [List.mem_singleton.mp hp]; exact ⟨D₂, Ne.symm hLD, gD⟩
  exact codeAny_compStart_list (loop _ rfl) (W.self 0 _ _ _ st0 (loop _ rfl))

theorem src_two {E : Value → Shared → Prop} {RR : Value → Addr → Result → Shared → Prop} {x1 : Str} {pe p1 : Pos} {t0 iter i1 : Expr} {scope : Scope} {cl : List (Str × Addr)} {pos : Pos} {ax : Addr} {vs : List Value} {e : Nat} {m : Str → Option Value} {news₀ : List (Addr × Obj)}
    (hh : A.handled = none) (hl : s.heap.get? ax = some (listOf vs.toArray e)) (hcell : ∀ y ∈ scope.names, y.2 ≠ .cell) (hkind : scope.kind = .function)
    (hx : ∀ C, (compEnvC scope cl C env).kindOf x1 = some .local) (hdb : (x1 == ("__debug__" : Str)) = false) (hk : ∀ C, (compEnvC scope cl C env).scope.kind = .function)
    (hp : ∀ C, ((compEnvC scope cl C env).scope.kind == .class || ((compEnvC scope cl C env).scope.kind == .module && (compEnvC scope cl C env).locals != (compEnvC scope cl C env).globals)) = false)
    (hs : ∀ C x, foldedSetIterable i1 (compEnvC scope cl C env) x = pure x)
    (F : Fr g env.locals s.heap m) (N : News g env.locals s.heap news₀)
    (J : Nat → List Value → List (Addr × Obj) → Prop) (h0 : J 0 [] news₀)
    (turn : ∀ C I D i v ys e' mc news₁ h tk oI oL, vs[i]? = some v → J i ys news₁ → s.heap.get? C = none → s.heap.get? I = none → s.heap.get? D = none → D ≠ C → (∀ p ∈ news₁, p.1 ≠ I ∧ p.1 ≠ D ∧ p.1 ≠ env.locals) → h.get? ax = some (listOf vs.toArray e) → Fr g C h mc → News g C h (news₁ ++ [(I, oI), (D, listOf ys.toArray e'), (env.locals, oL)]) →
      wpAny (model prog w) A (assign t0 (compEnvC scope cl C env) v) (fun _ s₁ => wpAny (model prog w) A (eval i1 (compEnvC scope cl C env)) (fun x s₂ =>
        ∃ (fl : Addr) (zs : List Value) (ef : Nat) (h' : Heap) (tk' : Nat) (mc' : Str → Option Value) (news' : List (Addr × Obj)), x = .ref fl ∧ s₂ = { s with heap := h', toks := tk' } ∧ Fr g C h' mc' ∧ News g C h' (news' ++ [(I, oI), (D, listOf ys.toArray e'), (env.locals, oL)]) ∧
          (∀ p ∈ news', p.1 ≠ I ∧ p.1 ≠ D ∧ p.1 ≠ env.locals) ∧ h'.get? ax = some (listOf vs.toArray e) ∧ (fl, listOf zs.toArray ef) ∈ news' ∧ ys.length + zs.length ≤ sizeLine ∧ J (i + 1) (ys ++ zs) news') (fun _ _ => False) s₁) (fun _ _ => False) { s with heap := h, toks := tk })
    (done : ∀ C D h' tk ys e' mc news', J vs.length ys news' → s.heap.get? C = none → s.heap.get? D = none → D ≠ C → h'.Ns C mc → (∀ p ∈ news', p.1 ≠ C) → (∀ p ∈ news', p.1 ≠ D) → Fr g env.locals h' m → News g env.locals h' (news' ++ [(D, listOf ys.toArray e')]) → h'.get? ax = some (listOf vs.toArray e) → RR (.ref D) C (.ok .next) { s with heap := h', toks := tk }) :
    wpAny (model prog w) A (pyIter (.ref ax)) (fun it s₂ => wpAny (model prog w) A (newList []) (fun acc s₃ => wpAny (model prog w) A (newFunctionEnv scope env.globals cl [] env.qual none .none (some env)) (fun cenv s₄ =>
      codeAny (model prog w) A (.compStart (comp2 (.Name x1 pe) t0 iter (.Name x1 p1) i1 scope pos) 0 it acc { cenv with scope := relabel scope env }) (RR acc cenv.locals) s₄) E s₃) E s₂) E s := by
  refine wpAny_pyIter_list (isList_of hl) ?_
  have hne : ax ≠ s.heap.objs.size := Nat.ne_of_lt (Heap.lt_size hl)
  have fresh : s.heap.get? s.heap.objs.size = none := none_of_size (Nat.le_refl _)
  have down : ∀ {x : Obj} b, (s.heap.push x).get? b = none → s.heap.get? b = none := fun b e => none_of_stays (fun b o e => Heap.get?_push_of_some _ e) e
  exact compW2 (news₀ := news₀) hh (none_of_stays (fun b o e => F.keep b o e) fresh) (Nat.ne_of_lt F.ns.lt) ⟨_, Heap.get?_push_size _ rfl, rfl, rfl⟩ (fun p hp => Nat.ne_of_lt (Heap.lt_size (N p hp).1)) hne (Heap.get?_push_of_some _ hl) hcell hkind hx hdb hk hp hs (F.push _) (fun p hp => ⟨Heap.get?_push_of_some _ (N p hp).1, (N p hp).2⟩) J h0
    (fun C D i v ys e' mc news₁ h tk oI oL hv hJ hC hD hDC hn hd F₁ N₁ => turn C _ D i v ys e' mc news₁ h tk oI oL hv hJ (down _ hC) fresh (down _ hD) hDC hn hd F₁ N₁)
    fun C D h' tk ys e' mc news' hJ hC hD hDC n₁ hn hn2 F₁ N₁ hd => done C D h' tk ys e' mc news' hJ (down _ hC) (down _ hD) hDC n₁ hn hn2 F₁ N₁ hd
end
end Mine

open PySem PySem.W PySem.Calls PyProof.Rows
set_option Elab.async false
set_option maxRecDepth 100000
namespace Mine
theorem freshLaw : True := by w_top off; trivial
local macro_rules | `(tactic| walk_at "STOP") => `(tactic| ((fail_if_success (with_reducible show wpAny _ _ (exec (Stmt.For _ _ _ _ _) _) _ _ _)); (fail_if_success (with_reducible show wpAny _ _ (exec (Stmt.While _ _ _ _) _) _ _ _)); (fail_if_success (with_reducible show wpAny _ _ (PySem.call (Value.ref _) _ _) _ _ _)); (fail_if_success (with_reducible show wpAny _ _ (eval (Expr.ListComp _ _ _ _) _) _ _ _)); (fail_if_success (with_reducible show Exists _)); (fail_if_success (with_reducible show wpAny _ _ (subscriptTail _ _ (Value.ref _) (Value.ref _)) _ _ _)); (fail_if_success (with_reducible show wpAny _ _ (compareOp CmpOp.NotEq (Value.ref _) (Value.ref _)) _ _ _)); (fail_if_success (with_reducible show wpAny _ _ (compareOp CmpOp.In (Value.ref _) (Value.ref _)) _ _ _)); (fail_if_success (with_reducible show wpAny _ _ (PySem.call (Value.builtin "max") _) _ _ _)); (fail_if_success (with_reducible show wpAny _ _ (PySem.call (Value.type "dict") _) _ _ _)); (fail_if_success (with_reducible show wpAny _ _ (pyIter _) _ _ _)); (fail_if_success (with_reducible show wpAny _ _ (exec (Stmt.Assign _ (Expr.ListComp _ _ _ _) _) _) _ _ _)); (fail_if_success (with_reducible show wpAny _ _ (binaryOp Operator.Add (Value.ref _) (Value.ref _)) _ _ _)); (fail_if_success (with_reducible show TurnPost _ _ _ _ _ _ _ _ _ _)); (fail_if_success (with_reducible show TurnPost2 _ _ _ _ _ _ _ _ _ _ _ _)); (fail_if_success (with_reducible show CEnd _ _ _ _ _ _ _ _ _ _ _ _ _ _))))
local macro_rules | `(tactic| walk_at "NM") => `(tactic| ((with_reducible show wpAny _ _ (eval (Expr.Name _ _) (compEnvC _ _ _ _)) _ _ _); refine' comp_name rfl rfl ?kF ?kv (by decide) ?_; (case kF => k_asm); (case kv => rfl); (try dsimp only)))
local macro_rules | `(tactic| walk_at "M") => `(tactic| repeat' (first | (k_unfold; (try dsimp only)) | walk_at "NM" | (with_reducible refine wpAny_execs_nil ?_; try dsimp only) | (walk_at "STOP"; walk1 <;> (try dsimp only))))
local macro_rules | `(tactic| walk_at "ML") => `(tactic| repeat' (first | (k_unfold; (try dsimp only)) | walk_at "NM" | (with_reducible refine wpAny_execs_nil ?_; try dsimp only) | (walk_at "STOP"; (fail_if_success (with_reducible show wpAny _ _ (PySem.call (Value.builtin _) _) _ _ _)); (fail_if_success (with_reducible show wpAny _ _ (subscriptTail _ _ _ _) _ _ _)); (fail_if_success (with_reducible show wpAny _ _ (storeName _ (Str.ofString "feeder") _) _ _ _)); walk1 <;> (try dsimp only))))
local macro_rules | `(tactic| walk_at "ENTER") => `(tactic| ((case ho => k_is); (case hcd => k_is); (case hbind => exact BindsTo.of_eq rfl); (case hloc => exact locs rfl); (case hcell => decide); (case hco => rfl); (case hgen => rfl); (case hk => rfl)))
local macro_rules | `(tactic| walk_at "FOLD") => `(tactic| ((try dsimp only); (try (show wpAny _ _ _ _ _ _)); (try k_fold)))

local macro_rules | `(tactic| k_in) => `(tactic| assumption)
local macro_rules | `(tactic| walk_at "IN") => `(tactic| first | (with_reducible assumption) | exact List.mem_cons_self | ((with_reducible refine List.mem_append_left _ ?_); walk_at "IN") | ((with_reducible refine List.mem_append_right _ ?_); walk_at "IN") | ((with_reducible refine List.mem_cons_of_mem _ ?_); walk_at "IN") | (simp; done))
local macro_rules | `(tactic| walk_at "SUB") => `(tactic| first | exact subNil | ((with_reducible refine subApp ?_ ?_) <;> walk_at "SUB") | (refine subCons ?_ ?_; (walk_at "IN"); walk_at "SUB") | (intro q hq; walk_at "IN"))
theorem ix1 {i r : Nat} (h : r ≤ i + 1) : (0 : Int) ≤ (i : Int) + 1 - (r : Int) := by omega
theorem ix2 (i : Nat) : (0 : Int) ≤ (i : Int) + 1 := by omega
theorem ix3 {i r : Nat} (h : r ≤ i + 1) : ((i : Int) + 1 - (r : Int)).toNat = i + 1 - r := Int.toNat_sub (i + 1) r
theorem ix4 {i r n : Nat} (hi : i < n) (h : r ≤ i + 1) : min ((i : Int) + 1).toNat n - ((i : Int) + 1 - (r : Int)).toNat = r := by
  rw [ix3 h, show ((i : Int) + 1).toNat = i + 1 from rfl, Nat.min_eq_left hi]; exact Nat.sub_sub_self h
theorem ix5 {a b c d i : Nat} (h : a + b ≤ i) (h2 : c + d ≤ b + (0 + 1)) : d ≤ i + 1 := by omega
theorem ix6 {a b c d i n : Nat} (h : a + b ≤ i) (h2 : c + d ≤ b + (0 + 1)) (hi : i < n) (hn : n ≤ 10) : a + c ≤ 64 := by omega
theorem ix7 {a b c d i : Nat} (h : a + b ≤ i) (h2 : c + d ≤ b + (0 + 1)) : a + c + d ≤ i + 1 := by omega
theorem ix8 {a b i n k m : Nat} (h : a + b ≤ i) (hi : i < n) (hn : n ≤ k) (hk : k < m) : b < m := by omega
theorem ews_law {R r : List Int} {i : Nat} (h : (R.take (i + 1)).drop ((R.take (i + 1)).length - r.length) = r) (hi : i < R.length) (hr : r.length ≤ i + 1) (a b : Nat) (ha : a = i + 1 - r.length) (hb : b = r.length) : (R.drop a).take b = r := by
  rw [List.length_take, Nat.min_eq_left hi, List.drop_take, Nat.sub_sub_self hr] at h
  rw [ha, hb]; exact h
theorem lc1 {a b : Nat} (h : a ≤ 6) : a + min 2 b ≤ 10 := by have := Nat.min_le_left 2 b; omega
theorem lc2 {a b c d i n m : Nat} (h : a + b ≤ 10 + i) (hi : i < n) (e : m = n) (f : m ≤ 4) (g : c + d ≤ b + (0 + 1)) : a + c ≤ 64 := by omega
theorem lc3 {a b c d i : Nat} (h : a + b ≤ 10 + i) (g : c + d ≤ b + (0 + 1)) : a + c + d ≤ 10 + (i + 1) := by omega
theorem lc4 {a b i n m : Nat} (h : a + b ≤ 10 + i) (hi : i < n) (e : m = n) (f : m ≤ 4) : b < 1000 := by omega
theorem lb1 {i8 i15 : Int} (h : i8 ≤ 0 + 40) (g : i15 ≤ i8 + 1) : i15 ≤ 41 := by omega
theorem lb2 {i15 i17 d : Int} {j : Nat} (h : i15 ≤ 71) (b : d < 7) (c : j < d.toNat) (e : i17 ≤ i15 + j) : i17 < 1000 := by omega
theorem lb3 {i15 i17 d : Int} (h : i15 ≤ 41) (b : d < 7) (e : i17 ≤ i15 + (d.toNat : Nat)) : i17 ≤ 47 := by omega
theorem lb4 {i17 i20 : Int} (h : i17 ≤ 47) (e : i20 ≤ i17 + 1) : i20 ≤ 60 := by omega
theorem lb5 {i22 i24 : Int} {k : Nat} (hk : k < 2) (h : i22 ≤ 60 + 5 * k) (e : i24 ≤ i22 + 1) : i24 ≤ 71 := by omega
theorem lb6 {i22 i24 i17 d : Int} {k : Nat} (h : i22 ≤ 60 + 5 * k) (e : i24 ≤ i22 + 1) (b : d < 5) (g : i17 ≤ i24 + (d.toNat : Nat)) : i17 ≤ 60 + 5 * ((k + 1 : Nat) : Int) := by omega
theorem lb7 {i : Int} {n : Int} (h : i ≤ n) (hn : n < 1000) : i < 1000 := by omega
theorem lb8 {d : Int} (h : d < 5) : d < 7 := by omega
theorem lb9 {i : Int} (h : i ≤ 41) : i ≤ 71 := by omega
theorem canon3 {a b c : Str} {A B C : Option Value} {m : Str → Option Value} (ha : m a = A) (hb : m b = B) (hc : m c = C) : m = fun z => if z = a then A else if z = b then B else if z = c then C else m z := by
  funext z
  by_cases h1 : z = a
  · rw [if_pos h1, h1, ha]
  · rw [if_neg h1]
    by_cases h2 : z = b
    · rw [if_pos h2, h2, hb]
    · rw [if_neg h2]
      by_cases h3 : z = c
      · rw [if_pos h3, h3, hc]
      · rw [if_neg h3]

theorem canon4 {a b c d : Str} {A B C D : Option Value} {m : Str → Option Value} (ha : m a = A) (hb : m b = B) (hc : m c = C) (hd : m d = D) : m = fun z => if z = a then A else if z = b then B else if z = c then C else if z = d then D else m z := by
  funext z
  by_cases h1 : z = a
  · rw [if_pos h1, h1, ha]
  · rw [if_neg h1]; exact congrFun (canon3 hb hc hd) z
theorem canon5 {a b c d e : Str} {A B C D E : Option Value} {m : Str → Option Value} (ha : m a = A) (hb : m b = B) (hc : m c = C) (hd : m d = D) (he : m e = E) : m = fun z => if z = a then A else if z = b then B else if z = c then C else if z = d then D else if z = e then E else m z := by
  funext z
  by_cases h1 : z = a
  · rw [if_pos h1, h1, ha]
  · rw [if_neg h1]; exact congrFun (canon4 hb hc hd he) z
theorem call_nil {M : Model} {A : Around} {f v : Value} {Q : Value → Shared → Prop} {E : Value → Shared → Prop} {s : Shared} (h : wpAny M A (call f [v]) Q E s) : wpAny M A (call f ([v] ++ [])) Q E s := h
theorem drain_len {S : List Int → Prop} {Ev : List Int → Option Int} {gs o r : List Int} (h : Drain S Ev gs o r) : o.length + r.length ≤ gs.length := by
  induction h with
  | stop _ => simp
  | @step gs n l out rest hg hno hd _ ih =>
    have h1 := decide_le hg hd
    have h2 := decide_pos hd
    rw [List.length_drop] at ih
    rw [List.length_cons]
    omega

theorem Fed.front_app {W : List (List Int × Int)} (hne : ∀ q e, EvOf W q = some e → e ≠ -1) {gs out r t R : List Int} (F : Fed W gs out r) (hR : Drain NoStop (EvOf W) (gs ++ t) R []) : R.take out.length = out := by
  obtain ⟨o, ho⟩ := drain_ex hne (r ++ t).length (r ++ t) (Nat.le_refl _)
  rw [drain_det hR (F.run ho), List.take_left']
  rfl

set_option maxHeartbeats 8000000 in
theorem PW_pb0154_01_holds : PySem.Challenge.rw_pb0154_01.Holds := hd (by
  k_go0
  (all_goals try k_fold)
  rename_i w s0 s1 mg mb Gr Yh fa ob pm doc ho hg KX MX VX GL T BT TE TW w11 w10 MB w9 w8 hcd xs hs hlay0 hL1 hr1 hl2 w6 w5 sc vs w2 hL ra w1 r0 hI hr hcond1 hcond K0 hD h₁ tk1 F o2 o1 d2 d1 N Y
  have G' : Gc w s1.heap := ⟨KX, _, _, _, T⟩
  have okc : Ok 40 callerA := ⟨rfl, by decide, by decide⟩
  clear Gr Yh MX VX GL BT TE TW MB hcd ra w1 r0 hr K0 hD ho
  dsimp only at F d2 d1 N Y
  change Fr s1.heap s1.heap.objs.size h₁ (fun y => if y = Str.ofString "script" then some (Value.ref sc) else none) at F
  replace d1 : o1.data = .cell none := d1
  replace d2 : o2.data = .cell none := d2
  clear Y
  dsimp only
  walk_at "M"
  refine comp_E [] rfl rfl (by decide) ?_
  walk_at "M"
  refine kmk_slice_ints (s := { heap := _, gens := s1.gens, drawn := s1.drawn, toks := _, os := s1.os }) F N (hL.at fun o e => F.keep _ o e) .none (.int _ _) hI (kmk_upto hI (by decide)) rfl (fun Ds ws h2 F2 N2 l2 hw he hle => ?_) (by with_unfolding_all rfl) (fun _ => by with_unfolding_all rfl) (by rw [List.size_toArray, hI.length, sizeLine_eq]; omega)
  clear F N
  have hws : ws.length = (xs.take 40).length := hw.length
  have hx40 : (xs.take 40).length ≤ 40 := by rw [List.length_take]; omega
  refine src_list (RR := fun acc C => compPost _ _ _ none _ acc C) okc.hh (N2 _ (List.Mem.head _)).1 (Nat.le_trans (m := 64) (by omega) (by decide)) (by decide) rfl F2 N2
    (fun k ys news => news = [(Ds, listOf ws.toArray 0), (s1.heap.objs.size + 1 + 1, o2), (s1.heap.objs.size + 1, o1)] ∧ IntsAre ys ((xs.take 40).take k)) ?_ ?_ ?_
  · exact ⟨rfl, IntsAre.nil⟩
  · intro C I D j y ys e2 mc news₂ h3 tk3 oI oL hy hJ hC hI2 hD hDC hn2 hl F3 N3
    -- A
    obtain ⟨rfl, hys⟩ := hJ
    obtain ⟨n, t, rfl, hn⟩ := hw.at j y hy
    refine assign_name (env := compEnvC _ _ C _) rfl rfl F3 N3 (fun h4 F4 N4 k4 => ?_)
    clear F3 N3
    refine tests_nil ?_
    rw [if_pos rfl]
    walk_at "M"
    have F5 := F4
    refine (show CEnd _ _ _ _ _ _ _ _ _ _ _ _ _ _ from ⟨h4, _, _, _, rfl, F5, N4, hn2, ?_, rfl, ?_⟩)
    · intro q hq
      rw [List.mem_singleton.mp hq]
      exact (N4 (Ds, listOf ws.toArray 0) (by walk_at "IN")).1
    · rw [List.take_add_one, show (xs.take 40)[j]? = some n from hn]
      exact IntsAre.append hys (IntsAre.cons _ _ IntsAre.nil)
    -- B
  · intro C D h3 tk3 ys e3 mc news₃ hJ hC hD hDC hnsC hn F3 N3 _
    obtain ⟨rfl, hys⟩ := hJ
    refine fin_none hC F2 hDC hnsC hn F3 N3 (fun h4 F4 N4 => ?_)
    clear F2 N2 F3 N3
    simp only [List.cons_append, List.nil_append] at N4
    walk_at "M"
    rename_i lB hB FB NB lltB
    rw [hws, List.take_length] at hys
    refine kmk_add_ints FB NB (isList_of (NB (D, listOf ys.toArray e3) (by walk_at "IN")).1) (isList_of (vs := [Value.int 12 _, Value.int 5 _].toArray) (NB _ (List.Mem.head _)).1) hys (IntsAre.cons _ _ (IntsAre.cons _ _ IntsAre.nil)) (fun c cs h5 F5 N5 lt5 hcs => ?_) (Nat.le_trans (m := 64) (by simp; omega) (by decide))
    have N6 : News s1.heap s1.heap.objs.size h5 [(c, listOf cs.toArray 0), (s1.heap.objs.size + 1 + 1, o2), (s1.heap.objs.size + 1, o1)] := news_sub N5 (by walk_at "SUB")
    have lc : @LT.lt Nat _ (s1.heap.objs.size + 1 + 1) c ∧ @LT.lt Nat _ (s1.heap.objs.size + 1) c := ⟨lt5 (s1.heap.objs.size + 1 + 1, o2) (by walk_at "IN"), lt5 (s1.heap.objs.size + 1, o1) (by walk_at "IN")⟩
    clear FB NB N5
    walk_at "M"
    rename_i p h6 lp h7 o1' F7 N7 dp
    have hcl := hcs.length
    rw [List.length_append] at hcl
    simp only [List.length_cons, List.length_nil] at hcl
    have hNlen : (xs.take 40 ++ [12, 5]).length ≤ 42 := by rw [List.length_append]; simp only [List.length_cons, List.length_nil]; omega
    have hNpos : 0 < (xs.take 40 ++ [12, 5]).length := by rw [List.length_append]; simp only [List.length_cons, List.length_nil]; omega
    refine drawn_spec (h₀ := s1.heap) ((Ok.deeper (okc.mono (by decide : 6 ≤ 40)))) G' F7.keep (N7 _ (List.Mem.head _)).1 (N7 _ (List.Mem.head _)).2.2 (N7 (c, listOf cs.toArray 0) (by walk_at "IN")).1 (Nat.ne_of_lt lp.1) hcs hNpos hNlen (by decide) (by decide) (by decide) (fun wl ew items W wo i8 v8 t18 t28 h8 tk8 hwl hwo hwl0 hwlne hW hW1 hW6 hW4 hW10 i80 i8le v80 k8 p8 => ?_)
    have F8 := fr_call F7 (fp := [(p, penOf c 0 0 (tk3 + 1 + 1) (tk3 + 1 + 1 + 1) 0)]) (fun q hq => by rw [List.mem_singleton.mp hq]; exact N7 _ (List.Mem.head _)) (fun b o hb e => k8 b o (by simpa using hb) e)
    have nwl : ∀ b o, h7.get? b = some o → @Ne Nat b wl := fun b o e z => by
      have hz : h7.get? wl = none := hwl0
      rw [← z, e] at hz; cases hz
    have nwo : ∀ q ∈ wo, ∀ b o, h7.get? b = some o → @Ne Nat b q.1 := fun q hq b o e z => by
      have hz : h7.get? q.1 = none := (hwo q hq).2
      rw [← z, e] at hz; cases hz
    have N8 : News s1.heap s1.heap.objs.size h8 ((p, penOf c i8 v8 t18 t28 0) :: (c, listOf cs.toArray 0) :: (s1.heap.objs.size + 1 + 1, o2) :: (s1.heap.objs.size + 1, o1') :: (wl, listOf items.toArray ew) :: wo) := by
      intro q hq
      simp only [List.mem_cons] at hq
      rcases hq with rfl | rfl | rfl | rfl | rfl | hq
      · exact ⟨p8, (N7 _ (List.Mem.head _)).2⟩
      · exact ⟨k8 _ _ (Nat.ne_of_lt lp.1) (N7 (c, listOf cs.toArray 0) (by walk_at "IN")).1, (N7 (c, listOf cs.toArray 0) (by walk_at "IN")).2⟩
      · exact ⟨k8 _ _ (Nat.ne_of_lt lp.2.1) (N7 (s1.heap.objs.size + 1 + 1, o2) (by walk_at "IN")).1, (N7 (s1.heap.objs.size + 1 + 1, o2) (by walk_at "IN")).2⟩
      · exact ⟨k8 _ _ (Nat.ne_of_lt lp.2.2) (N7 (s1.heap.objs.size + 1, o1') (by walk_at "IN")).1, (N7 (s1.heap.objs.size + 1, o1') (by walk_at "IN")).2⟩
      · exact ⟨hwl, fr_new F7 hwl0⟩
      · exact ⟨(hwo q hq).1, fr_new F7 (hwo q hq).2⟩
    have hwp : @Ne Nat wl p := fun z => nwl _ _ (N7 _ (List.Mem.head _)).1 z.symm
    have hwop : ∀ q ∈ wo, @Ne Nat q.1 p := fun q hq z => nwo q hq _ _ (N7 _ (List.Mem.head _)).1 z.symm
    have hwo2 : ∀ q ∈ wo, @Ne Nat q.1 (s1.heap.objs.size + 1 + 1) := fun q hq z => nwo q hq _ _ (N7 (s1.heap.objs.size + 1 + 1, o2) (by walk_at "IN")).1 z.symm
    clear F7 N7
    walk_at "M"
    rename_i h9 F9 N9
    refine comp_E [] rfl rfl (by decide) ?_
    walk_at "M"
    refine src_list (RR := fun acc C => compPost _ _ _ none _ acc C) okc.hh (N9 (wl, listOf items.toArray ew) (by walk_at "IN")).1 (Nat.le_trans (m := 64) (by have := hW.len; omega) (by decide)) (by decide) rfl F9 N9
      (fun k ys news => news = (p, penOf c i8 v8 t18 t28 0) :: (c, listOf cs.toArray 0) :: (s1.heap.objs.size + 1 + 1, o2) :: (s1.heap.objs.size + 1, o1') :: (wl, listOf items.toArray ew) :: wo ∧ IntsAre ys ((W.take k).map fun x => (x.1.length : Int))) ?_ ?_ ?_
    · exact ⟨rfl, IntsAre.nil⟩
    · intro C I2 D2 j y ys e2 mc news₂ h10 tk10 oI2 oL hy hJ hC2 hI2 hD2 hDC2 hn2 hl10 F10 N10
      -- A
      obtain ⟨rfl, hys2⟩ := hJ
      obtain ⟨x, hx, pp, wy, vy, tkl, n1, n2, rfl, hpp, hwy, hiy⟩ := hW.word j y hy
      have hppN := N10 (pp, tupOf #[.ref wy, .int x.2 tkl] n1) (by have h90 : (pp, tupOf #[.ref wy, .int x.2 tkl] n1) ∈ wo := hpp; walk_at "IN")
      refine assign_pair (env := compEnvC _ _ C _) okc.hh hppN.1 rfl rfl rfl F10 N10 (fun h11 tk11 F11 N11 k11 => ?_)
      clear F9 N9 F10 N10
      refine tests_nil ?_
      rw [if_pos rfl]
      walk_at "ML"
      have F12 := F11
      have hwyN := N11 (wy, tupOf vy.toArray n2) (by have h90 : (wy, tupOf vy.toArray n2) ∈ wo := hwy; walk_at "IN")
      refine PyProof.Rows.len_tuple (items := vy.toArray) ⟨_, hwyN.1, rfl, _, rfl⟩ (by
        have h1 := hiy.length
        have h2 := (hW4 x (List.mem_of_getElem? hx)).2
        rw [List.size_toArray]
        omega) ?_
      refine (show CEnd _ _ _ _ _ _ _ _ _ _ _ _ _ _ from ⟨h11, _, _, _, rfl, F12, N11, hn2, ?_, rfl, ?_⟩)
      · intro q hq
        rw [List.mem_singleton.mp hq]
        exact (N11 (wl, listOf items.toArray ew) (by walk_at "IN")).1
      · rw [List.take_add_one, hx, List.map_append, List.size_toArray, hiy.length]
        exact IntsAre.append hys2 (IntsAre.cons _ _ IntsAre.nil)
      -- B
    · intro C D2 h10 tk10 ys e10 mc news₃ hJ hC2 hD2 hDC2 hnsC2 hn2 F10 N10 _
      obtain ⟨rfl, hys2⟩ := hJ
      rw [hW.len, List.take_length] at hys2
      refine fin_none hC2 F9 hDC2 hnsC2 hn2 F10 N10 (fun h11 F11 N11 => ?_)
      clear F9 N9 F10 N10
      walk_at "M"
      refine kso_max F11 N11 (isList_of (N11 (D2, listOf ys.toArray e10) (by walk_at "IN")).1) hys2 (by rw [List.length_map]; omega) okc.hh (fun h12 most tmo tk12 F12 N12 hmo hmx => ?_)
      have N13 : News s1.heap s1.heap.objs.size h12 ((p, penOf c i8 v8 t18 t28 0) :: (c, listOf cs.toArray 0) :: (s1.heap.objs.size + 1 + 1, o2) :: (s1.heap.objs.size + 1, o1') :: (wl, listOf items.toArray ew) :: wo) := news_sub N12 fun q hq => List.mem_append_left _ hq
      have hmW : ∀ x ∈ W, (x.1.length : Int) ≤ most := fun x hx => hmx _ (List.mem_map.mpr ⟨x, hx, rfl⟩)
      have hmo1 : 1 ≤ most := by
        obtain ⟨x, hx, e⟩ := List.mem_map.mp hmo
        have := (hW4 x hx).1
        omega
      have hne0 : ∀ q ∈ (c, listOf cs.toArray 0) :: (s1.heap.objs.size + 1 + 1, o2) :: (s1.heap.objs.size + 1, o1') :: (wl, listOf items.toArray ew) :: wo, @Ne Nat q.1 p := fun q hq => by
        simp only [List.mem_cons] at hq
        rcases hq with rfl | rfl | rfl | rfl | hq
        · exact Nat.ne_of_lt lp.1
        · exact Nat.ne_of_lt lp.2.1
        · exact Nat.ne_of_lt lp.2.2
        · exact hwp
        · exact hwop q hq
      clear F11 N11 N12
      walk_at "M"
      refine comp_A [(Str.ofString "pen", s1.heap.objs.size + 1)] rfl rfl rfl (by decide) ?_
      walk_at "M"
      rename_i h13 F13 N14
      refine draw_law (Ok.deeper (okc.mono (by decide : 4 ≤ 40))) G' F13 N14 hne0 (List.Mem.head _) hcs hNpos hNlen i80 (by omega) v80 (by decide) (by decide) (fun d15 i15 v15 td15 t115 t215 h15 tk15 d150 d157 i150 i15le v150 F15 N15 => ?_)
      clear F13 N14
      walk_at "M"
      rename_i h16 tk16 ra16 rb16 rc16 hr16 F16 N16 k16
      refine src_range (n := d15.toNat) (RR := fun acc C => compPost _ _ _ (some _) _ acc C) okc.hh hr16 (small_one (by omega) (by omega) (by omega) (by omega)) (by rw [rangeSize_nat, Int.sub_zero]) (Nat.le_trans (m := 64) (by omega) (by decide)) (by decide) rfl F16 N16
        (fun k ys news => ∀ GG : Prop, (∀ (i' v' : Int) (t1' t2' : Tok) (zs : List Int), news = (p, penOf c i' v' t1' t2' 0) :: (c, listOf cs.toArray 0) :: (s1.heap.objs.size + 1 + 1, o2) :: (s1.heap.objs.size + 1, o1') :: (wl, listOf items.toArray ew) :: wo → IntsAre ys zs → ys.length = k → 0 ≤ i' → i' ≤ i15 + k → 0 ≤ v' → GG) → GG) ?_ ?_ ?_
      · exact fun GG kk => kk i15 v15 t115 t215 [] rfl IntsAre.nil rfl i150 (by simp) v150
      · intro C I2 D j tj ys e2 mc news₂ h17 tk17 oI2 oL hj hJ hC hI2 hD hDC hn2 F17 N17
        -- A
        refine hJ _ ?_
        clear hJ
        rintro i17 v17 t117 t217 zs rfl hys hyl i170 i17le v170
        refine assign_name (env := compEnvC _ _ C _) rfl rfl F17 N17 (fun h18 F18 N18 k18 => ?_)
        clear F16 N16 F17 N17
        refine tests_nil ?_
        rw [if_pos rfl]
        walk_at "M"
        have hpn := hn2 (p, penOf c i17 v17 t117 t217 0) (by walk_at "IN")
        refine draw_law (rest := _ ++ [(I2, oI2), (D, listOf ys.toArray e2), (s1.heap.objs.size, oL)]) (Ok.deeper (okc.mono (by decide : 4 ≤ 40))) G' F18 N18 (fun q hq => ?_) (List.Mem.head _) hcs hNpos hNlen i170 (lb2 (lb9 (lb1 i8le i15le)) d157 hj i17le) v170 (by decide) (by decide) (fun d19 i19 v19 td19 t119 t219 h19 tk19 d190 d194 i190 i19le v190 F19 N19 => ?_)
        · rcases List.mem_append.mp hq with hq | hq
          · exact hne0 q hq
          · simp only [List.mem_cons, List.not_mem_nil, or_false] at hq
            rcases hq with rfl | rfl | rfl
            · exact fun z => hpn.1 z.symm
            · exact fun z => hpn.2.1 z.symm
            · exact fun z => hpn.2.2 z.symm
        clear F18 N18
        walk_at "M"
        refine (show CEnd _ _ _ _ _ _ _ _ _ _ _ _ _ _ from mkCEnd (news' := (p, penOf c i19 v19 t119 t219 0) :: (c, listOf cs.toArray 0) :: (s1.heap.objs.size + 1 + 1, o2) :: (s1.heap.objs.size + 1, o1') :: (wl, listOf items.toArray ew) :: wo) F19 N19 ?_ (fun q hq => nomatch hq) (fun GG kk => kk i19 v19 t119 t219 (zs ++ [1 + d19]) rfl (IntsAre.append hys (IntsAre.cons _ _ IntsAre.nil)) (by simp [hyl]) i190 (by omega) v190))
        intro q hq
        rcases List.mem_cons.mp hq with rfl | hq
        · exact hpn
        · exact hn2 q (List.mem_cons_of_mem _ hq)
        -- B
      · intro C rl h17 tk17 rs e17 mc news₃ hJ hC hD hDC hnsC hn F17 N17
        refine hJ _ ?_
        clear hJ
        rintro i17 v17 t117 t217 R0 rfl hrs hrl i170 i17le v170
        have hrlp : @Ne Nat rl p := fun z => by
          have hD' : h16.get? rl = none := hD
          have := (N16 _ (List.Mem.head _)).1
          dsimp only at this
          rw [← z, hD'] at this; cases this
        refine fin_assign rfl rfl hC F16 hDC hnsC hn F17 N17 (fun h18 tk18 F18 N18 => ?_)
        clear F16 N16 F17 N17
        walk1
        refine wpAny_mono (Q := fun f s' => f = .next ∧ ∃ _ : Unit, ∀ GG : Prop, (∀ (h' : Heap) (tk' : Nat) (rl : Addr) (rs : List Value) (er : Nat) (R : List Int) (i' v' : Int) (t1' t2' : Tok), s' = { s1 with heap := h', toks := tk' } → Fr s1.heap s1.heap.objs.size h' (fun z => if z = Str.ofString "row" then some (Value.ref rl) else if z = Str.ofString "most" then some (Value.int most tmo) else if z = Str.ofString "words" then some (Value.ref wl) else if z = Str.ofString "script" then some (Value.ref sc) else none) → News s1.heap s1.heap.objs.size h' ((p, penOf c i' v' t1' t2' 0) :: (rl, listOf rs.toArray er) :: (c, listOf cs.toArray 0) :: (s1.heap.objs.size + 1 + 1, o2) :: (s1.heap.objs.size + 1, o1') :: (wl, listOf items.toArray ew) :: wo) → @Ne Nat rl p → IntsAre rs R → R.length ≤ 10 → 0 ≤ i' → i' ≤ 60 → 0 ≤ v' → GG) → GG) ?_ ?_ (fun _ _ x => x)
        · -- A
          walk_at "M"
          have N18' : News s1.heap s1.heap.objs.size h18 ((p, penOf c i17 v17 t117 t217 0) :: (rl, listOf rs.toArray e17) :: (c, listOf cs.toArray 0) :: (s1.heap.objs.size + 1 + 1, o2) :: (s1.heap.objs.size + 1, o1') :: (wl, listOf items.toArray ew) :: wo) := news_sub N18 (by walk_at "SUB")
          refine draw_law (Ok.deeper (okc.mono (by decide : 4 ≤ 40))) G' F18 N18' (fun q hq => ?_) (List.mem_cons_of_mem _ (List.Mem.head _)) hcs hNpos hNlen i170 (lb7 (lb3 (lb1 i8le i15le) d157 i17le) (by decide)) v170 (by decide) (by decide) (fun d20 i20 v20 td20 t120 t220 h20 tk20 d200 d202 i200 i20le v200 F20 N20 => ?_)
          · rcases List.mem_cons.mp hq with rfl | hq
            · exact hrlp
            · exact hne0 q hq
          clear F18 N18 N18'
          have hR0 : R0.length ≤ 6 := by have := hrs.length; omega
          have hi0 : 0 < items.length := by rw [hW.len]; omega
          obtain ⟨x0, hx0, pp, wa, vy, tkl, n1, n2, hv0, hpp, hwa, hia⟩ := hW.word 0 items[0] (List.getElem?_eq_getElem hi0)
          have hx04 := (hW4 x0 (List.mem_of_getElem? hx0)).2
          walk_at "ML"
          · rename_i hd1
            refine my_item (s := { heap := h20, gens := s1.gens, drawn := s1.drawn, toks := _, os := s1.os }) (isList_of (N20 (wl, listOf items.toArray ew) (by walk_at "IN")).1) (by decide) (by decide) (v := .ref pp) (by rw [← hv0]; simp [hi0]) ?_
            walk_at "ML"
            refine item_tupleT (s := { heap := h20, gens := s1.gens, drawn := s1.drawn, toks := _, os := s1.os }) (l := [.ref wa, .int x0.2 tkl]) (j := 0) (x := .ref wa) ⟨_, (N20 (pp, tupOf #[.ref wa, .int x0.2 tkl] n1) (by have h90 : (pp, tupOf #[.ref wa, .int x0.2 tkl] n1) ∈ wo := hpp; walk_at "IN")).1, rfl, _, rfl⟩ (by decide) (by decide) rfl rfl ?_
            walk_at "ML"
            refine slice_tuple_upto (b := 2) (s := { heap := h20, gens := s1.gens, drawn := s1.drawn, toks := _, os := s1.os }) F20 N20 (t := wa) (vs := vy) (n := n2) (by have h90 : (wa, tupOf vy.toArray n2) ∈ wo := hwa; walk_at "IN") (fun r n3 h21 F21 N21 => ?_) (by rw [List.size_toArray, hia.length]; exact Nat.le_trans (m := 64) (by omega) (by decide))
            walk_at "ML"
            rename_i D9 c9 h22 F22 N22 l22
            refine kmk_add_ints F22 N22 (isList_of (N22 (rl, listOf rs.toArray e17) (by walk_at "IN")).1) (isList_of (N22 _ (List.Mem.head _)).1) hrs (hia.take 2) (fun D23 us h23 F23 N23 lt23 hus => ?_) (Nat.le_trans (m := 64) (by rw [List.length_take]; exact Nat.le_trans (lc1 hR0) (by decide)) (by decide))
            have lt23p := lt23 (p, penOf c i20 v20 t120 t220 0) (by walk_at "IN")
            have N24 : News s1.heap s1.heap.objs.size h23 ((p, penOf c i20 v20 t120 t220 0) :: (D23, listOf us.toArray 0) :: (c, listOf cs.toArray 0) :: (s1.heap.objs.size + 1 + 1, o2) :: (s1.heap.objs.size + 1, o1') :: (wl, listOf items.toArray ew) :: wo) := news_sub N23 (by walk_at "SUB")
            clear N23
            walk_at "M"
            rename_i h25 F25 N25
            rw [same_shape] at F25
            exact ⟨(), fun GG kk => kk h25 _ D23 us 0 (R0 ++ x0.1.take 2) i20 v20 t120 t220 rfl F25 N25 (Nat.ne_of_gt lt23p) hus (by rw [List.length_append, List.length_take]; exact lc1 hR0) i200 (lb4 (lb3 (lb1 i8le i15le) d157 i17le) i20le) v200⟩
          · exact ⟨(), fun GG kk => kk h20 _ rl rs e17 R0 i20 v20 t120 t220 rfl F20 N20 hrlp hrs (by omega) i200 (lb4 (lb3 (lb1 i8le i15le) d157 i17le) i20le) v200⟩
          -- B
        · rintro f s' ⟨rfl, _, hI9⟩
          refine hI9 _ ?_
          clear hI9
          rintro h20 tk20 rl rs er R i20 v20 t120 t220 rfl F20 N20 hrlp hrs hR i200 i20le v200
          clear F18 N18
          try clear i170
          try clear i17le
          try clear v170
          try clear i150
          try clear i15le
          try clear v150
          try clear d150
          try clear d157
          try clear hrl
          dsimp only
          walk_at "M"
          refine wpAny_For ?_
          walk_at "M"
          rename_i h21 tk21 ra21 rb21 rc21 hr21 F21 N21 k21
          refine iter_range (n := 2) okc.hh hr21 (by decide) (by decide) F21 N21
            (fun k m news => ∀ GG : Prop, (∀ (i' v' : Int) (t1' t2' : Tok) (o2' : Obj) (ov : Option Value), news = (p, penOf c i' v' t1' t2' 0) :: (rl, listOf rs.toArray er) :: (c, listOf cs.toArray 0) :: (s1.heap.objs.size + 1 + 1, o2') :: (s1.heap.objs.size + 1, o1') :: (wl, listOf items.toArray ew) :: wo → o2'.data = .cell ov → 0 ≤ i' → i' ≤ 60 + 5 * k → 0 ≤ v' → m (Str.ofString "row") = some (.ref rl) → m (Str.ofString "most") = some (.int most tmo) → m (Str.ofString "words") = some (.ref wl) → GG) → GG) ?_ ?_ ?_
          · exact fun GG kk => kk i20 v20 t120 t220 o2 none rfl d2 i200 (by omega) v200 rfl rfl rfl
          · intro I k tv m₁ news₁ h22 tk22 oI hk hJ hIn hnI F22 N22
            refine hJ _ ?_
            clear hJ
            rintro i22 v22 t122 t222 o22 ov rfl dov i220 i22le v220 hm1 hm2 hm3
            rw [canon3 hm1 hm2 hm3] at F22
            refine assign_name rfl rfl F22 N22 (fun h23 F23 N23 k23 => ?_)
            clear F21 N21 F22 N22 k23
            walk_at "FOLD"
            walk_at "M"
            refine comp_A [(Str.ofString "pen", s1.heap.objs.size + 1)] rfl rfl rfl (by decide) ?_
            walk_at "M"
            have hrl2 : ∀ q ∈ (rl, listOf rs.toArray er) :: (c, listOf cs.toArray 0) :: (s1.heap.objs.size + 1 + 1, o22) :: (s1.heap.objs.size + 1, o1') :: (wl, listOf items.toArray ew) :: (wo ++ [(I, oI)]), @Ne Nat q.1 p := fun q hq => by
              simp only [List.mem_cons, List.mem_append, List.not_mem_nil, or_false] at hq
              rcases hq with rfl | rfl | rfl | rfl | rfl | hq | rfl
              · exact hrlp
              · exact Nat.ne_of_lt lp.1
              · exact Nat.ne_of_lt lp.2.1
              · exact Nat.ne_of_lt lp.2.2
              · exact hwp
              · exact hwop q hq
              · exact fun z => hnI (p, penOf c i22 v22 t122 t222 0) (by walk_at "IN") z.symm
            refine draw_law (rest := (rl, listOf rs.toArray er) :: (c, listOf cs.toArray 0) :: (s1.heap.objs.size + 1 + 1, o22) :: (s1.heap.objs.size + 1, o1') :: (wl, listOf items.toArray ew) :: (wo ++ [(I, oI)])) (Ok.deeper (okc.mono (by decide : 4 ≤ 40))) G' F23 N23 hrl2 (List.mem_cons_of_mem _ (List.Mem.head _)) hcs hNpos hNlen i220 (by omega) v220 (by decide) (by decide) (fun d24 i24 v24 td24 t124 t224 h24 tk24 d240 d245 i240 i24le v240 F24 N24 => ?_)
            clear F23 N23
            walk_at "M"
            rename_i h25 tk25 ra25 rb25 rc25 hr25 F25 N25 k25
            refine src_range (n := d24.toNat) (RR := fun acc C => compPost _ _ _ (some _) _ acc C) okc.hh hr25 (small_one (by omega) (by omega) (by omega) (by omega)) (by rw [rangeSize_nat, Int.sub_zero]) (Nat.le_trans (m := 64) (by omega) (by decide)) (by decide) rfl F25 N25
              (fun k ys news => ∀ GG : Prop, (∀ (i' v' : Int) (t1' t2' : Tok) (zs : List Int), news = (p, penOf c i' v' t1' t2' 0) :: (rl, listOf rs.toArray er) :: (c, listOf cs.toArray 0) :: (s1.heap.objs.size + 1 + 1, o22) :: (s1.heap.objs.size + 1, o1') :: (wl, listOf items.toArray ew) :: (wo ++ [(I, oI)]) → IntsAre ys zs → ys.length = k → 0 ≤ i' → i' ≤ i24 + k → 0 ≤ v' → GG) → GG) ?_ ?_ ?_
            · exact fun GG kk => kk i24 v24 t124 t224 [] rfl IntsAre.nil rfl i240 (by simp) v240
            · intro C I2 D j tj ys e2 mc news₂ h17 tk17 oI2 oL hj hJ hC hI2 hD hDC hn2 F17 N17
              -- A
              refine hJ _ ?_
              clear hJ
              rintro i17 v17 t117 t217 zs rfl hys hyl i170 i17le v170
              refine assign_name (env := compEnvC _ _ C _) rfl rfl F17 N17 (fun h18 F18 N18 k18 => ?_)
              clear F25 N25 F17 N17
              refine tests_nil ?_
              rw [if_pos rfl]
              walk_at "M"
              have hpn := hn2 (p, penOf c i17 v17 t117 t217 0) (by walk_at "IN")
              refine draw_law (rest := _ ++ [(I2, oI2), (D, listOf ys.toArray e2), (s1.heap.objs.size, oL)]) (Ok.deeper (okc.mono (by decide : 4 ≤ 40))) G' F18 N18 (fun q hq => ?_) (List.mem_cons_of_mem _ (List.Mem.head _)) hcs hNpos hNlen i170 (lb2 (lb5 hk i22le i24le) (lb8 d245) hj i17le) v170 (by decide) (by decide) (fun d19 i19 v19 td19 t119 t219 h19 tk19 d190 d194 i190 i19le v190 F19 N19 => ?_)
              · rcases List.mem_append.mp hq with hq | hq
                · exact hrl2 q hq
                · simp only [List.mem_cons, List.not_mem_nil, or_false] at hq
                  rcases hq with rfl | rfl | rfl
                  · exact fun z => hpn.1 z.symm
                  · exact fun z => hpn.2.1 z.symm
                  · exact fun z => hpn.2.2 z.symm
              clear F18 N18
              walk_at "M"
              refine (show CEnd _ _ _ _ _ _ _ _ _ _ _ _ _ _ from mkCEnd (news' := (p, penOf c i19 v19 t119 t219 0) :: (rl, listOf rs.toArray er) :: (c, listOf cs.toArray 0) :: (s1.heap.objs.size + 1 + 1, o22) :: (s1.heap.objs.size + 1, o1') :: (wl, listOf items.toArray ew) :: (wo ++ [(I, oI)])) F19 N19 ?_ (fun q hq => nomatch hq) (fun GG kk => kk i19 v19 t119 t219 (zs ++ [1 + d19]) rfl (IntsAre.append hys (IntsAre.cons _ _ IntsAre.nil)) (by simp [hyl]) i190 (by omega) v190))
              intro q hq
              rcases List.mem_cons.mp hq with rfl | hq
              · exact hpn
              · exact hn2 q (List.mem_cons_of_mem _ hq)
              -- B
            · intro C tl h17 tk17 ts e17 mc news₃ hJ hC hD hDC hnsC hn F17 N17
              refine hJ _ ?_
              clear hJ
              rintro i17 v17 t117 t217 T0 rfl hts htl i170 i17le v170
              have htlp : ∀ a o, h25.get? a = some o → @Ne Nat a tl := fun a o e z => by
                have hD' : h25.get? tl = none := hD
                rw [← z, e] at hD'; cases hD'
              have htlp' : ∀ q ∈ (p, penOf c i24 v24 t124 t224 0) :: (rl, listOf rs.toArray er) :: (c, listOf cs.toArray 0) :: (s1.heap.objs.size + 1 + 1, o22) :: (s1.heap.objs.size + 1, o1') :: (wl, listOf items.toArray ew) :: (wo ++ [(I, oI)]), @Ne Nat q.1 tl := fun q hq => htlp _ _ (N25 q hq).1
              refine fin_assign rfl rfl hC F25 hDC hnsC hn F17 N17 (fun h18 tk18 F18 N18 => ?_)
              clear F25 N25 F17 N17
              obtain ⟨K, hK⟩ : ∃ K, K = (p, penOf c i17 v17 t117 t217 0) :: (rl, listOf rs.toArray er) :: (tl, listOf ts.toArray e17) :: (c, listOf cs.toArray 0) :: (s1.heap.objs.size + 1, o1') :: (wl, listOf items.toArray ew) :: (wo ++ [(I, oI)]) := ⟨_, rfl⟩
              have N19 : News s1.heap s1.heap.objs.size h18 ((s1.heap.objs.size + 1 + 1, o22) :: K) := news_sub N18 fun q hq => by
                rw [hK] at hq
                (revert q; walk_at "SUB")
              have hKrl : (rl, listOf rs.toArray er) ∈ K := by rw [hK]; walk_at "IN"
              have hKtl : (tl, listOf ts.toArray e17) ∈ K := by rw [hK]; walk_at "IN"
              have hKwl : (wl, listOf items.toArray ew) ∈ K := by rw [hK]; walk_at "IN"
              have hKwo : ∀ q ∈ wo, q ∈ K := fun q hq => by rw [hK]; walk_at "IN"
              have hKI : (I, oI) ∈ K := by rw [hK]; walk_at "IN"
              have hKback : ∀ q ∈ (p, penOf c i17 v17 t117 t217 0) :: (rl, listOf rs.toArray er) :: (c, listOf cs.toArray 0) :: (s1.heap.objs.size + 1, o1') :: (wl, listOf items.toArray ew) :: (wo ++ [(I, oI)]), q ∈ K := fun q hq => by
                rw [hK]
                (revert q; walk_at "SUB")
              have hcI : s1.heap.objs.size + 1 + 1 ≠ I := hnI (s1.heap.objs.size + 1 + 1, o22) (by walk_at "IN")
              have hKne : ∀ q ∈ K, @Ne Nat q.1 (s1.heap.objs.size + 1 + 1) := fun q hq z => by
                have e1 := (N19 q (List.mem_cons_of_mem _ hq)).1
                have e2 : h18.get? (s1.heap.objs.size + 1 + 1) = some o22 := (N19 _ (List.Mem.head _)).1
                rw [z, e2] at e1
                have e3 := Option.some.inj e1
                rw [hK] at hq
                simp only [List.mem_cons, List.mem_append, List.not_mem_nil, or_false] at hq
                rcases hq with rfl | rfl | rfl | rfl | rfl | rfl | hq | rfl
                · rw [e3] at dov; cases dov
                · rw [e3] at dov; cases dov
                · rw [e3] at dov; cases dov
                · rw [e3] at dov; cases dov
                · exact absurd z (by show ¬ (s1.heap.objs.size + 1 = s1.heap.objs.size + 1 + 1); omega)
                · rw [e3] at dov; cases dov
                · exact hwo2 q hq z
                · exact hcI z.symm
              clear hK N18
              walk_at "ML"
              refine law_trie_spec (h₀ := s1.heap) (Ok.deeper (okc.mono (by decide : 8 ≤ 40))) G' F18.keep (N19 _ (List.mem_cons_of_mem _ hKwl)).1 (hW.mono (fun a o hm => (N19 (a, o) (List.mem_cons_of_mem _ (hKwo _ hm))).1)) hW6 (fun x hx => (hW4 x hx).2) (fun t D9 ps h20 tk20 TT hps hD9 k20 => ?_)
              have F18c := F18
              have N19c : h18.get? (s1.heap.objs.size + 1 + 1) = some o22 := (N19 _ (List.Mem.head _)).1
              have F20 := Fr.keeps F18 k20
              have N20 := News.grown N19 k20
              clear N19
              walk_at "ML"
              refine feeder_new (h₀ := s1.heap) (Ok.deeper (okc.mono (by decide : 6 ≤ 40))) G' F20.keep (fun f X h21 tk21 FF hX9 k21 => ?_)
              have F21 := Fr.keeps F20 k21
              have hKne2 : ∀ q ∈ D9.objs w t ++ K, @Ne Nat q.1 (s1.heap.objs.size + 1 + 1) := fun q hq z => by
                rcases List.mem_append.mp hq with hq | hq
                · have e1 : h18.get? q.1 = none := hD9 q hq
                  rw [z, N19c] at e1; cases e1
                · exact hKne q hq z
              have N21 : News s1.heap s1.heap.objs.size h21 ((s1.heap.objs.size + 1 + 1, o22) :: (X.objs w f t ++ (D9.objs w t ++ K))) := fun q hq => by
                rcases List.mem_cons.mp hq with rfl | hq
                · exact News.grown N20 k21 _ (List.Mem.head _)
                · rcases List.mem_append.mp hq with hq | hq
                  · exact ⟨FF.at_ q hq, fr_new F20 (hX9 q hq)⟩
                  · rcases List.mem_append.mp hq with hq | hq
                    · exact ⟨k21 _ _ (TT.1 q hq), fr_new F18c (hD9 q hq)⟩
                    · exact News.grown N20 k21 _ (List.mem_cons_of_mem _ hq)
              have hXne : ∀ q ∈ X.objs w f t, @Ne Nat q.1 (s1.heap.objs.size + 1 + 1) := fun q hq z => by
                have e1 : h20.get? q.1 = none := hX9 q hq
                have e2 : h20.get? (s1.heap.objs.size + 1 + 1) = some o22 := (N20 _ (List.Mem.head _)).1
                rw [z, e2] at e1; cases e1
              have hX20 : ∀ p ∈ X.objs w f t, h20.get? p.1 = none := fun p hp => hX9 p hp
              have hK20 : ∀ q ∈ D9.objs w t ++ K, h20.get? q.1 = some q.2 := fun q hq => by
                rcases List.mem_append.mp hq with hq | hq
                · exact TT.1 q hq
                · exact (N20 q (List.mem_cons_of_mem _ hq)).1
              clear F20 N20
              walk_at "ML"
              refine storeX_C F21 N21 rfl (UpdF.head (fun q hq => ?_)) dov (fun h22 o23 F22 N22 d23 => ?_)
              · rcases List.mem_append.mp hq with hq | hq
                · exact hXne q hq
                · exact hKne2 q hq
              clear F21 N21
              obtain ⟨K2, hK2⟩ : ∃ K2, K2 = D9.objs w t ++ K := ⟨_, rfl⟩
              rw [← hK2] at N22
              simp only [FD.objs, List.cons_append, List.nil_append] at N22
              walk_at "ML"
              rename_i tkA fl hA lA hB FB NB
              have hD2 : ∀ q ∈ D9.objs w t, q ∈ K2 := fun q hq => by rw [hK2]; exact List.mem_append_left _ hq
              have hKK : ∀ q ∈ K, q ∈ K2 := fun q hq => by rw [hK2]; exact List.mem_append_right _ hq
              have hXK : ∀ p ∈ X.objs w f t, ∀ q ∈ (s1.heap.objs.size + 1 + 1, o23) :: K2, @Ne Nat p.1 q.1 := fun p hp q hq z => by
                have e1 := hX20 p hp
                rcases List.mem_cons.mp hq with rfl | hq
                · exact hXne p hp z
                · have e2 := hK20 q (by rw [← hK2]; exact hq)
                  rw [z, e2] at e1; cases e1
              clear hK2 hX20 hK20
              have NB' : News s1.heap s1.heap.objs.size hB (X.objs w f t ++ (fl, listOf #[] 0) :: (s1.heap.objs.size + 1 + 1, o23) :: K2) := news_sub NB (by walk_at "SUB")
              have hap0 : ∀ p ∈ X.objs w f t, ∀ q ∈ (fl, listOf ([] : List Value).toArray 0) :: (s1.heap.objs.size + 1 + 1, o23) :: K2, @Ne Nat p.1 q.1 := fun p hp q hq => by
                rcases List.mem_cons.mp hq with rfl | hq
                · simp only [FD.objs, List.mem_cons, List.not_mem_nil, or_false] at hp
                  rcases hp with rfl | rfl | rfl
                  · exact Nat.ne_of_lt lA.2.1
                  · exact Nat.ne_of_lt lA.2.2.1
                  · exact Nat.ne_of_lt lA.2.2.2.1
                · exact hXK p hp q hq
              have hEv : ∀ q e, EvOf W q = some e → e ≠ -1 := fun q e h => by
                obtain ⟨p, hp, _, e2⟩ := EvOf_mem h
                have := hW10 p hp
                omega
              have hKrl2 : (rl, listOf rs.toArray er) ∈ K2 := hKK _ hKrl
              clear NB hXK
              have i17b : i17 ≤ 60 + 5 * ((k + 1 : Nat) : Int) := lb6 i22le i24le d245 i17le
              have hT4 : ts.length ≤ 4 := by omega
              try clear he
              try clear hle
              try clear hws
              try clear hx40
              try clear hcl
              try clear hNlen
              try clear hNpos
              try clear hW1
              try clear i80
              try clear i8le
              try clear v80
              try clear hmo
              try clear d240
              try clear d245
              try clear i200
              try clear i20le
              try clear v200
              try clear i220
              try clear i22le
              try clear v220
              try clear i240
              try clear i24le
              try clear v240
              try clear htl
              try clear i17le
              try clear lA
              try clear lltB
              try clear lc
              try clear lp
              try clear hcond1
              try clear hcond
              try clear k20
              try clear k21
              try clear hrlp
              try clear hwp
              try clear hX9
              try clear hXne
              try clear hKne2
              try clear F18c
              try clear N19c
              refine wpAny_For ?_
              walk_at "ML"
              refine iter_enum okc.hh (NB' (rl, listOf rs.toArray er) (by walk_at "IN")).1 FB NB'
                (fun i m news => ∀ GG : Prop, (∀ (X' : FD) (fl' : Addr) (fvs : List Value) (ef : Nat) (out r : List Int), news = X'.objs w f t ++ (fl', listOf fvs.toArray ef) :: (s1.heap.objs.size + 1 + 1, o23) :: K2 → IntsAre fvs out → IntsAre X'.vs r → Fed W (R.take i) out r → out.length + r.length ≤ i → (∀ p ∈ X'.objs w f t, ∀ q ∈ (fl', listOf fvs.toArray ef) :: (s1.heap.objs.size + 1 + 1, o23) :: K2, @Ne Nat p.1 q.1) → m (Str.ofString "found") = some (.ref fl') → m (Str.ofString "row") = some (.ref rl) → m (Str.ofString "most") = some (.int most tmo) → m (Str.ofString "words") = some (.ref wl) → m (Str.ofString "tail") = some (.ref tl) → GG) → GG) ?_ ?_ ?_
              · exact fun GG kk => kk X fl [] 0 [] [] rfl IntsAre.nil FF.nums (Fed.nil W) (Nat.le_refl _) hap0 rfl rfl rfl rfl rfl
              · intro IE I2 TU i tv2 v m₂ news₂ hC tkC oE oE2 hv hJ hIE hI2 hnn hrl3 hTup FC NC
                -- A
                refine hJ _ ?_
                clear hJ
                rintro X1 fl1 fvs1 ef1 out1 r1 rfl hf1 hx1 hfed hl1 hap1 e1 e2 e3 e4 e5
                obtain ⟨n, tn, rfl, hn⟩ := hrs.at i v hv
                rw [canon5 e1 e2 e3 e4 e5] at FC
                refine assign_pairT okc.hh hTup rfl rfl rfl FC NC (fun hD tkD F30 N30 kD => ?_)
                clear FC NC hTup FB NB' kD
                have N30x : News s1.heap s1.heap.objs.size hD (X1.objs w f t ++ (fl1, listOf fvs1.toArray ef1) :: (s1.heap.objs.size + 1 + 1, o23) :: (K2 ++ [(IE, oE), (I2, oE2)])) := by
                  rw [List.append_assoc] at N30; exact N30
                simp only [FD.objs, List.cons_append, List.nil_append] at N30
                have hi : i < R.length := (List.getElem?_eq_some_iff.mp hn).1
                walk_at "FOLD"
                walk_at "ML"
                refine feed_led (rest := (fl1, listOf fvs1.toArray ef1) :: (s1.heap.objs.size + 1 + 1, o23) :: (K2 ++ [(IE, oE), (I2, oE2)])) (Ok.deeper (okc.mono (by decide : 8 ≤ 40))) G' TT hEv F30 N30x (fun q hq => (by have h90 := hD2 q hq; walk_at "IN")) hx1 (fun p hp q hq => ?_) (ix8 hl1 hi hR (by decide)) (fun X2 fl2 fvs2 ef2 out2 r2 h31 tk31 ed2 hx2 hf2 hdr2 hfr2 F31 N31 hap2 => ?_)
                · have hpn := hnn p (List.mem_append_left _ hp)
                  simp only [List.mem_cons, List.mem_append, List.not_mem_nil, or_false] at hq
                  rcases hq with rfl | rfl | hq | rfl | rfl
                  · exact hap1 p hp _ (List.Mem.head _)
                  · exact hap1 p hp _ (List.mem_cons_of_mem _ (List.Mem.head _))
                  · exact hap1 p hp q (List.mem_cons_of_mem _ (List.mem_cons_of_mem _ hq))
                  · exact hpn.1
                  · exact hpn.2
                clear F30 N30 N30x
                have hlen2 := drain_len hdr2
                rw [List.length_append] at hlen2
                simp only [List.length_cons, List.length_nil] at hlen2
                simp only [FD.objs, List.cons_append, List.nil_append] at N31
                refine kmk_add_ints F31 N31 (isList_of (N31 (fl1, listOf fvs1.toArray ef1) (by walk_at "IN")).1) (isList_of (N31 (fl2, listOf fvs2.toArray ef2) (by walk_at "IN")).1) hf1 hf2 (fun D3 us h32 F32 N32 lt32 hus => ?_) (Nat.le_trans (m := 64) (ix6 hl1 hlen2 hi hR) (by decide))
                clear F31 N31
                have hsh := Fed.short hps hmo1 hmW hdr2
                have hfed2 := hfed.step hps hdr2
                rw [show R.take i ++ [n] = R.take (i + 1) by rw [List.take_add_one, hn]; rfl] at hfed2
                have hx2l := hx2.length
                have hx2s : X2.vs.toArray.size = r2.length := by rw [List.size_toArray, hx2l]
                have hri : r2.length ≤ i + 1 := ix5 hl1 hlen2
                walk_at "ML"
                walk_at "M"
                rename_i h33 F33 N33
                refine kmk_slice_ints (s := { heap := _, gens := s1.gens, drawn := s1.drawn, toks := _, os := s1.os }) F33 N33 (isList_of (N33 (rl, listOf rs.toArray er) (by walk_at "IN")).1) (.int _ _) (.int _ _) hrs (kmk_run hrs (ix1 hri) (ix2 i)) rfl (fun Dn ws h34 F34 N34 l34 hw he hle => ?_) (by with_unfolding_all rfl) (fun _ => by with_unfolding_all rfl) (by rw [List.size_toArray, hrs.length, sizeLine_eq]; omega)
                rw [ews_law hfed2.held hi hri _ _ (ix3 hri) (ix4 hi hri)] at hw
                clear F33 N33
                walk_at "ML"
                refine ne_intsK (isList_of (N34 (X2.hl, listOf X2.vs.toArray X2.e) (by walk_at "IN")).1) hx2 (isList_of (N34 (Dn, listOf ws.toArray 0) (List.Mem.head _)).1) hw (Nat.lt_of_le_of_lt (Nat.add_le_add_left (by decide) _) (Ok.deeper okc).un) ?_
                rw [show (!decide (r2 = r2)) = false by simp]
                walk_at "M"
                refine (show TurnEnd2 _ _ _ _ _ _ _ _ _ _ from mkTurn2 (news' := X2.objs w f t ++ (D3, listOf us.toArray 0) :: (s1.heap.objs.size + 1 + 1, o23) :: K2) F34 (news_sub N34 fun q hq => ?_) (fun q hq => ?_) ((N34 (rl, listOf rs.toArray er) (by walk_at "IN")).1) (fun GG kk => kk X2 D3 us 0 (out1 ++ out2) r2 rfl hus hx2 hfed2 (by rw [List.length_append]; exact ix7 hl1 hlen2) (fun p hp q hq => ?_) rfl rfl rfl rfl rfl))
                · (revert q; walk_at "SUB")
                · rcases List.mem_append.mp hq with hq | hq
                  · exact ⟨hap2 q hq (IE, oE) (by walk_at "IN"), hap2 q hq (I2, oE2) (by walk_at "IN")⟩
                  · rcases List.mem_cons.mp hq with rfl | hq
                    · exact ⟨Ne.symm (Nat.ne_of_lt (lt32 (IE, oE) (by walk_at "IN"))), Ne.symm (Nat.ne_of_lt (lt32 (I2, oE2) (by walk_at "IN")))⟩
                    · exact hnn q (List.mem_append_right _ (List.mem_cons_of_mem _ hq))
                · rcases List.mem_cons.mp hq with rfl | hq
                  · refine Nat.ne_of_lt (lt32 p ?_)
                    (revert p; walk_at "SUB")
                  · refine hap2 p hp q ?_
                    rcases List.mem_cons.mp hq with rfl | hq
                    · walk_at "IN"
                    · walk_at "IN"
                -- B
              · intro h40 tk40 m40 news40 hJ F40 N40 hrl40
                refine hJ _ ?_
                clear hJ
                rintro X1 fl1 fvs1 ef1 told r1 rfl hf1 hx1 hfed hl1 hap1 e1 e2 e3 e4 e5
                rw [canon5 e1 e2 e3 e4 e5] at F40
                rw [hrs.length, List.take_length] at hfed
                clear FB NB' hrl40
                simp only [FD.objs, List.cons_append, List.nil_append] at N40
                have hrsl := hrs.length
                have hf1l := hf1.length
                walk_at "FOLD"
                walk_at "ML"
                rename_i tol ct _ Fx Nx lt41 h41 F41 N41
                clear Fx Nx
                obtain ⟨K3, hK3⟩ : ∃ K3, K3 = (tol, listOf fvs1.toArray ct) :: K2 := ⟨_, rfl⟩
                have hap42 : ∀ p ∈ X1.objs w f t, ∀ q ∈ (fl1, listOf fvs1.toArray ef1) :: (s1.heap.objs.size + 1 + 1, o23) :: K3, @Ne Nat p.1 q.1 := fun p hp q hq => by
                  rw [hK3] at hq
                  simp only [List.mem_cons] at hq
                  rcases hq with rfl | rfl | rfl | hq
                  · exact hap1 p hp _ (by walk_at "IN")
                  · exact hap1 p hp _ (by walk_at "IN")
                  · simp only [FD.objs, List.mem_cons, List.not_mem_nil, or_false] at hp
                    rcases hp with rfl | rfl | rfl
                    · exact Nat.ne_of_lt lt41.1
                    · exact Nat.ne_of_lt lt41.2.1
                    · exact Nat.ne_of_lt lt41.2.2.1
                  · exact hap1 p hp _ (by walk_at "IN")
                have N42 : News s1.heap s1.heap.objs.size h41 (X1.objs w f t ++ (fl1, listOf fvs1.toArray ef1) :: (s1.heap.objs.size + 1 + 1, o23) :: K3) := news_sub N41 fun q hq => by
                  rw [hK3] at hq
                  (revert q; walk_at "SUB")
                have hK3t : (tol, listOf fvs1.toArray ct) ∈ K3 := by rw [hK3]; exact List.Mem.head _
                have hK23 : ∀ q ∈ K2, q ∈ K3 := fun q hq => by rw [hK3]; exact List.mem_cons_of_mem _ hq
                clear hK3 N41 lt41 hap1
                have hts2 := hts.length
                refine wpAny_For ?_
                walk_at "ML"
                refine iter_list okc.hh (N42 (tl, listOf ts.toArray e17) (by have h90 := hK23 _ (hKK _ hKtl); walk_at "IN")).1 F41 N42
                  (fun i m news => ∀ GG : Prop, (∀ (X' : FD) (fl' : Addr) (fvs : List Value) (ef : Nat) (out r : List Int), news = X'.objs w f t ++ (fl', listOf fvs.toArray ef) :: (s1.heap.objs.size + 1 + 1, o23) :: K3 → IntsAre fvs out → IntsAre X'.vs r → Fed W (R ++ T0.take i) out r → out.length + r.length ≤ 10 + i → (∀ p ∈ X'.objs w f t, ∀ q ∈ (fl', listOf fvs.toArray ef) :: (s1.heap.objs.size + 1 + 1, o23) :: K3, @Ne Nat p.1 q.1) → m (Str.ofString "found") = some (.ref fl') → m (Str.ofString "row") = some (.ref rl) → m (Str.ofString "told") = some (.ref tol) → m (Str.ofString "words") = some (.ref wl) → m (Str.ofString "tail") = some (.ref tl) → m (Str.ofString "most") = some (.int most tmo) → GG) → GG) ?_ ?_ ?_
                · exact fun GG kk => kk X1 fl1 fvs1 ef1 told r1 rfl hf1 hx1 (by rw [List.take_zero, List.append_nil]; exact hfed) (by omega) hap42 rfl rfl rfl rfl rfl rfl
                · intro IE i v m₂ news₂ hC tkC oE hv hJ hIE hnn htl3 FC NC
                  -- A
                  refine hJ _ ?_
                  clear hJ
                  rintro X1 fl1 fvs1 ef1 out1 r1 rfl hf1 hx1 hfed hl1 hap1 e1 e2 e3 e4 e5 e6
                  obtain ⟨n, tn, rfl, hn⟩ := hts.at i v hv
                  rw [canon5 e1 e2 e3 e4 e5] at FC
                  refine assign_name rfl rfl FC NC (fun hD F30 N30 kD => ?_)
                  clear FC NC F41 N42 kD
                  have N30x : News s1.heap s1.heap.objs.size hD (X1.objs w f t ++ (fl1, listOf fvs1.toArray ef1) :: (s1.heap.objs.size + 1 + 1, o23) :: (K3 ++ [(IE, oE)])) := by
                    rw [List.append_assoc] at N30; exact N30
                  simp only [FD.objs, List.cons_append, List.nil_append] at N30
                  have hi : i < T0.length := (List.getElem?_eq_some_iff.mp hn).1
                  walk_at "FOLD"
                  walk_at "ML"
                  refine feed_led (rest := (fl1, listOf fvs1.toArray ef1) :: (s1.heap.objs.size + 1 + 1, o23) :: (K3 ++ [(IE, oE)])) (Ok.deeper (okc.mono (by decide : 8 ≤ 40))) G' TT hEv F30 N30x (fun q hq => (by have h90 := hK23 q (hD2 q hq); walk_at "IN")) hx1 (fun p hp q hq => ?_) (lc4 hl1 hi hts2 hT4) (fun X2 fl2 fvs2 ef2 out2 r2 h31 tk31 ed2 hx2 hf2 hdr2 hfr2 F31 N31 hap2 => ?_)
                  · have hpn := hnn p (List.mem_append_left _ hp)
                    simp only [List.mem_cons, List.mem_append, List.not_mem_nil, or_false] at hq
                    rcases hq with rfl | rfl | hq | rfl
                    · exact hap1 p hp _ (List.Mem.head _)
                    · exact hap1 p hp _ (List.mem_cons_of_mem _ (List.Mem.head _))
                    · exact hap1 p hp q (List.mem_cons_of_mem _ (List.mem_cons_of_mem _ hq))
                    · exact hpn
                  clear F30 N30 N30x
                  have hlen2 := drain_len hdr2
                  rw [List.length_append] at hlen2
                  simp only [List.length_cons, List.length_nil] at hlen2
                  simp only [FD.objs, List.cons_append, List.nil_append] at N31
                  refine kmk_add_ints F31 N31 (isList_of (N31 (fl1, listOf fvs1.toArray ef1) (by walk_at "IN")).1) (isList_of (N31 (fl2, listOf fvs2.toArray ef2) (by walk_at "IN")).1) hf1 hf2 (fun D3 us h32 F32 N32 lt32 hus => ?_) (Nat.le_trans (m := 64) (lc2 hl1 hi hts2 hT4 hlen2) (by decide))
                  clear F31 N31
                  have hfed2 := hfed.step hps hdr2
                  rw [List.append_assoc, show T0.take i ++ [n] = T0.take (i + 1) by rw [List.take_add_one, hn]; rfl] at hfed2
                  walk_at "ML"
                  rename_i h34 F34 N34
                  refine (show TurnEnd _ _ _ _ _ _ _ _ from mkTurn (news' := X2.objs w f t ++ (D3, listOf us.toArray 0) :: (s1.heap.objs.size + 1 + 1, o23) :: K3) F34 (news_sub N34 fun q hq => ?_) (fun q hq => ?_) (fun q hq => ?_) (fun GG kk => kk X2 D3 us 0 (out1 ++ out2) r2 rfl hus hx2 hfed2 (by rw [List.length_append]; exact lc3 hl1 hlen2) (fun p hp q hq => ?_) rfl rfl rfl rfl rfl e6))
                  · (revert q; walk_at "SUB")
                  · rcases List.mem_append.mp hq with hq | hq
                    · exact hap2 q hq (IE, oE) (by walk_at "IN")
                    · rcases List.mem_cons.mp hq with rfl | hq
                      · exact Ne.symm (Nat.ne_of_lt (lt32 (IE, oE) (by walk_at "IN")))
                      · exact hnn q (List.mem_append_right _ (List.mem_cons_of_mem _ hq))
                  · rw [List.mem_singleton.mp hq]
                    exact (N34 (tl, listOf ts.toArray e17) (by have h90 := hK23 _ (hKK _ hKtl); walk_at "IN")).1
                  · rcases List.mem_cons.mp hq with rfl | hq
                    · refine Nat.ne_of_lt (lt32 p ?_)
                      (revert p; walk_at "SUB")
                    · refine hap2 p hp q ?_
                      rcases List.mem_cons.mp hq with rfl | hq
                      · walk_at "IN"
                      · walk_at "IN"
                  -- B
                · intro h50 tk50 m50 news50 hJ F50 N50 htl50
                  refine hJ _ ?_
                  clear hJ
                  rintro X1 fl1 fvs5 ef1 out1 r1 rfl hf5 hx1 hfed5 hl5 hap5 e1 e2 e3 e4 e5 e6
                  rw [canon5 e1 e2 e3 e4 e5] at F50
                  rw [hts.length, List.take_length] at hfed5
                  clear F41 N42 htl50
                  have N50x : True → News s1.heap s1.heap.objs.size h50 (X1.objs w f t ++ (fl1, listOf fvs5.toArray ef1) :: (s1.heap.objs.size + 1 + 1, o23) :: K3) := fun _ => N50
                  simp only [FD.objs, List.cons_append, List.nil_append] at N50
                  have hf5l := hf5.length
                  have hx1l := hx1.length
                  have X50 : (hd.heap_39 w.params).In h50 := G'.X.keeps F50.keep
                  walk_at "FOLD"
                  walk_at "ML"
                  refine call_nil ?_
                  refine finish_led (rest := (fl1, listOf fvs5.toArray ef1) :: (s1.heap.objs.size + 1 + 1, o23) :: K3) (Ok.deeper (okc.mono (by decide : 8 ≤ 40))) G' TT hEv F50 (N50x trivial) (fun q hq => (by have h90 := hK23 q (hD2 q hq); walk_at "IN")) hx1 hap5 (by omega) (fun X2 fl2 fvs2 ef2 out2 r2 h51 tk51 ed2 hx2 hf2 hdr2 hfr2 F51 N51 hap2 => ?_)
                  obtain rfl := drain_rest hdr2
                  clear F50 N50
                  have hlen2 := drain_len hdr2
                  have htot : Drain NoStop (EvOf W) (R ++ T0) (out1 ++ out2) [] := by
                    have := hfed5.run (t := []) (o := out2) (by rw [List.append_nil]; exact hdr2)
                    rwa [List.append_nil] at this
                  simp only [FD.objs, List.cons_append, List.nil_append] at N51
                  refine kmk_add_ints F51 N51 (isList_of (N51 (fl1, listOf fvs5.toArray ef1) (by walk_at "IN")).1) (isList_of (N51 (fl2, listOf fvs2.toArray ef2) (by walk_at "IN")).1) hf5 hf2 (fun D3 us h52 F52 N52 lt52 hus => ?_) (Nat.le_trans (m := 64) (by simp only [List.length_nil] at hlen2; omega) (by decide))
                  have N53 : News s1.heap s1.heap.objs.size h52 (X2.objs w f t ++ (D3, listOf us.toArray 0) :: (s1.heap.objs.size + 1 + 1, o23) :: K3) := news_sub N52 (by walk_at "SUB")
                  have hap53 : ∀ p ∈ X2.objs w f t, ∀ q ∈ (D3, listOf us.toArray 0) :: (s1.heap.objs.size + 1 + 1, o23) :: K3, @Ne Nat p.1 q.1 := fun p hp q hq => by
                    rcases List.mem_cons.mp hq with rfl | hq
                    · refine Nat.ne_of_lt (lt52 p ?_)
                      (revert p; walk_at "SUB")
                    · exact hap2 p hp q (List.mem_cons_of_mem _ (List.mem_cons_of_mem _ hq))
                  clear F51 N51 N52 lt52 hap2
                  simp only [FD.objs, List.cons_append, List.nil_append] at N53
                  have hD5 : ∀ q ∈ D9.objs w t, q ∈ K3 := fun q hq => hK23 q (hD2 q hq)
                  have hrl5 : (rl, listOf rs.toArray er) ∈ K3 := hK23 _ hKrl2
                  have htl5 : (tl, listOf ts.toArray e17) ∈ K3 := hK23 _ (hKK _ hKtl)
                  have hwl5 : (wl, listOf items.toArray ew) ∈ K3 := hK23 _ (hKK _ hKwl)
                  have hwo5 : ∀ q ∈ wo, q ∈ K3 := fun q hq => hK23 _ (hKK _ (hKwo q hq))
                  have hW4' : ∀ p ∈ W, 1 ≤ p.1.length ∧ p.1.length ≤ 4 := hW4
                  walk_at "ML"
                  rename_i h54 F54 N54
                  refine kmk_add_ints F54 N54 (isList_of (N54 (rl, listOf rs.toArray er) (by walk_at "IN")).1) (isList_of (N54 (tl, listOf ts.toArray e17) (by walk_at "IN")).1) hrs hts (fun D4 us4 h55 F55 N55 lt55 hus4 => ?_) (Nat.le_trans (m := 64) (by omega) (by decide))
                  clear F54 N54
                  walk_at "ML"
                  refine run_spec (h₀ := s1.heap) (Ok.deeper (okc.mono (by decide : 9 ≤ 40))) G' F55.keep (N55 (wl, listOf items.toArray ew) (by walk_at "IN")).1 (hW.mono (fun a o hm => (N55 (a, o) (by have h90 := hwo5 _ hm; walk_at "IN")).1)) hW6 hW4 hW10 (N55 (D4, listOf us4.toArray 0) (List.Mem.head _)).1 hus4 (by rw [List.length_append]; omega) (fun fl3 fvs3 ef3 out3 h56 tk56 hfl3 hf3 hdr3 hfr3 k56 => ?_)
                  obtain rfl := drain_det htot hdr3
                  have F56 := Fr.keeps F55 k56
                  have N56 : News s1.heap s1.heap.objs.size h56 ((fl3, listOf fvs3.toArray ef3) :: (f, instObj 115 X2.dx) :: _) := fun q hq => by
                    rcases List.mem_cons.mp hq with rfl | hq
                    · exact ⟨hfl3, fr_new F55 hfr3⟩
                    · exact News.grown N55 k56 q (List.mem_cons_of_mem _ hq)
                  have N57 : News s1.heap s1.heap.objs.size h56 ((fl3, listOf fvs3.toArray ef3) :: (X2.objs w f t ++ (D3, listOf us.toArray 0) :: (s1.heap.objs.size + 1 + 1, o23) :: K3)) := news_sub N56 fun q hq => by
                    simp only [FD.objs, List.cons_append, List.nil_append, List.mem_cons] at hq ⊢
                    exact hq
                  simp only [FD.objs, List.cons_append, List.nil_append] at N57
                  clear F55 N55 N56
                  have hne1 : ∀ l : List Int, (!decide (l = l)) = false := fun l => by simp
                  walk_at "ML"
                  refine ne_intsK (isList_of (N57 (D3, listOf us.toArray 0) (by walk_at "IN")).1) hus (isList_of (N57 (fl3, listOf fvs3.toArray ef3) (List.Mem.head _)).1) hf3 (Nat.lt_of_le_of_lt (Nat.add_le_add_left (by decide) _) (Ok.deeper okc).un) ?_
                  rw [hne1]
                  walk_at "ML"
                  refine run_spec (h₀ := s1.heap) (Ok.deeper (okc.mono (by decide : 9 ≤ 40))) G' F56.keep (N57 (wl, listOf items.toArray ew) (by walk_at "IN")).1 (hW.mono (fun a o hm => (N57 (a, o) (by have h90 := hwo5 _ hm; walk_at "IN")).1)) hW6 hW4 hW10 (N57 (rl, listOf rs.toArray er) (by walk_at "IN")).1 hrs (by omega) (fun fl4 fvs4 ef4 out4 h58 tk58 hfl4 hf4 hdr4 hfr4 k58 => ?_)
                  have F58 := Fr.keeps F56 k58
                  have N58 : News s1.heap s1.heap.objs.size h58 ((fl4, listOf fvs4.toArray ef4) :: (X2.objs w f t ++ (D3, listOf us.toArray 0) :: (s1.heap.objs.size + 1 + 1, o23) :: K3)) := fun q hq => by
                    rcases List.mem_cons.mp hq with rfl | hq
                    · exact ⟨hfl4, fr_new F56 hfr4⟩
                    · exact News.grown N57 k58 q (List.mem_cons_of_mem _ hq)
                  clear F56 N57
                  have hdl4 := drain_len hdr4
                  have hfr4 := hfed.front hEv hdr4
                  have hfr5 := hfed.front_app hEv htot
                  simp only [FD.objs, List.cons_append, List.nil_append] at N58
                  walk_at "ML"
                  refine PySem.W.KM.len_K N58 (D := tol) (its := fvs1.toArray) (c := ct) (n := told.length) (by walk_at "IN") (by rw [List.size_toArray]; exact hf1.length) (by omega) ?_
                  walk_at "ML"
                  refine kba_turn (value' := PySem.Expr.Name (PySem.Str.ofString "_") ⟨0, 0, 0, 0⟩) (fun _ => rfl) ?_
                  refine kmk_slice_ints (s := { heap := _, gens := s1.gens, drawn := s1.drawn, toks := _, os := s1.os }) F58 N58 (isList_of (N58 (fl4, listOf fvs4.toArray ef4) (by walk_at "IN")).1) .none (.int _ _) hf4 (kmk_upto hf4 (Int.natCast_nonneg _)) rfl (fun D5 ws5 h59 F59 N59 l59 hw5 he5 hle5 => ?_) (by with_unfolding_all rfl) (fun _ => by with_unfolding_all rfl) (Nat.le_trans (m := 64) (by rw [List.size_toArray, hf4.length]; simp only [List.length_nil] at hdl4; omega) (by decide))
                  rw [Int.toNat_natCast, hfr4] at hw5
                  clear F58 N58
                  walk_at "ML"
                  refine ne_intsK (isList_of (N59 (D5, listOf ws5.toArray 0) (List.Mem.head _)).1) hw5 (isList_of (N59 (tol, listOf fvs1.toArray ct) (by walk_at "IN")).1) hf1 (Nat.lt_of_le_of_lt (Nat.add_le_add_left (by decide) _) (Ok.deeper okc).un) ?_
                  rw [hne1]
                  walk_at "ML"
                  refine PySem.W.KM.len_K N59 (D := tol) (its := fvs1.toArray) (c := ct) (n := told.length) (by walk_at "IN") (by rw [List.size_toArray]; exact hf1.length) (by omega) ?_
                  walk_at "ML"
                  refine kmk_slice_ints (s := { heap := _, gens := s1.gens, drawn := s1.drawn, toks := _, os := s1.os }) F59 N59 (isList_of (N59 (D3, listOf us.toArray 0) (by walk_at "IN")).1) .none (.int _ _) hus (kmk_upto hus (Int.natCast_nonneg _)) rfl (fun D6 ws6 h60 F60 N60 l60 hw6 he6 hle6 => ?_) (by with_unfolding_all rfl) (fun _ => by with_unfolding_all rfl) (Nat.le_trans (m := 64) (by rw [List.size_toArray, hus.length, List.length_append]; simp only [List.length_nil] at hlen2; omega) (by decide))
                  rw [Int.toNat_natCast, hfr5] at hw6
                  clear F59 N59
                  walk_at "ML"
                  refine ne_intsK (isList_of (N60 (D6, listOf ws6.toArray 0) (List.Mem.head _)).1) hw6 (isList_of (N60 (tol, listOf fvs1.toArray ct) (by walk_at "IN")).1) hf1 (Nat.lt_of_le_of_lt (Nat.add_le_add_left (by decide) _) (Ok.deeper okc).un) ?_
                  rw [hne1]
                  have N61 : News s1.heap s1.heap.objs.size h60 (X2.objs w f t ++ (D3, listOf us.toArray 0) :: (s1.heap.objs.size + 1 + 1, o23) :: K3) := news_sub N60 (by walk_at "SUB")
                  clear N60 l59 l60
                  simp only [FD.objs, List.cons_append, List.nil_append] at N61
                  walk_at "ML"
                  rename_i l62 h62 F62 N62 _
                  refine ne_intsK (isList_of (N62 (X2.hl, listOf X2.vs.toArray X2.e) (by walk_at "IN")).1) hx2 (isList_of (vs := ([] : List Value).toArray) (N62 (l62, listOf #[] 0) (List.Mem.head _)).1) IntsAre.nil (Nat.lt_of_le_of_lt (Nat.add_le_add_left (by decide) _) (Ok.deeper okc).un) ?_
                  rw [hne1]
                  have N63 : News s1.heap s1.heap.objs.size h62 (X2.objs w f t ++ (D3, listOf us.toArray 0) :: (s1.heap.objs.size + 1 + 1, o23) :: K3) := news_sub N62 fun q hq => List.mem_cons_of_mem _ hq
                  clear N62
                  have N63x : True → News s1.heap s1.heap.objs.size h62 (X2.objs w f t ++ (D3, listOf us.toArray 0) :: (s1.heap.objs.size + 1 + 1, o23) :: K3) := fun _ => N63
                  simp only [FD.objs, List.cons_append, List.nil_append] at N63
                  have X62 : (hd.heap_39 w.params).In h62 := G'.X.keeps F62.keep
                  walk_at "ML"
                  refine call_nil ?_
                  refine finish_led (rest := (D3, listOf us.toArray 0) :: (s1.heap.objs.size + 1 + 1, o23) :: K3) (Ok.deeper (okc.mono (by decide : 8 ≤ 40))) G' TT hEv F62 (N63x trivial) (fun q hq => (by have h90 := hD5 q hq; walk_at "IN")) hx2 hap53 (by decide) (fun X3 fl6 fvs6 ef6 out6 r6 h64 tk64 ed6 hx6 hf6 hdr6 hfr6 F64 N64 hap64 => ?_)
                  obtain rfl := drain_rest hdr6
                  obtain rfl := drain_det (Drain.stop (.inl rfl)) hdr6
                  clear F62 N63
                  have N65 : News s1.heap s1.heap.objs.size h64 ((fl6, listOf fvs6.toArray ef6) :: (X3.objs w f t ++ (s1.heap.objs.size + 1 + 1, o23) :: K3)) := news_sub N64 (by walk_at "SUB")
                  have hap65 : ∀ p ∈ X3.objs w f t, ∀ q ∈ (s1.heap.objs.size + 1 + 1, o23) :: K3, @Ne Nat p.1 q.1 := fun p hp q hq => hap64 p hp q (List.mem_cons_of_mem _ (List.mem_cons_of_mem _ hq))
                  clear N64 hap64
                  simp only [FD.objs, List.cons_append, List.nil_append] at N65
                  walk_at "ML"
                  rename_i l66 h66 F66 N66 _
                  refine ne_intsK (isList_of (N66 (fl6, listOf fvs6.toArray ef6) (by walk_at "IN")).1) hf6 (isList_of (vs := ([] : List Value).toArray) (N66 (l66, listOf #[] 0) (List.Mem.head _)).1) IntsAre.nil (Nat.lt_of_le_of_lt (Nat.add_le_add_left (by decide) _) (Ok.deeper okc).un) ?_
                  rw [hne1]
                  have N67 : News s1.heap s1.heap.objs.size h66 (X3.objs w f t ++ (s1.heap.objs.size + 1 + 1, o23) :: ([] ++ K3)) := news_sub N66 fun q hq => List.mem_cons_of_mem _ (List.mem_cons_of_mem _ hq)
                  clear N66
                  walk_at "ML"
                  refine comp_E [(Str.ofString "feeder", s1.heap.objs.size + 1 + 1)] rfl rfl (by decide) ?_
                  walk_at "ML"
                  refine src_two (RR := fun acc C => compPost _ _ _ none _ acc C) okc.hh (N67 (tl, listOf ts.toArray e17) (by walk_at "IN")).1 (by decide) rfl (by exact fun _ => rfl) (by decide) (by exact fun _ => rfl) (by exact fun _ => rfl) (by exact fun _ _ => rfl) F66 N67
                    (fun i ys news => ∀ GG : Prop, (∀ (X' : FD) (ex : List (Addr × Obj)) (out r : List Int), news = X'.objs w f t ++ (s1.heap.objs.size + 1 + 1, o23) :: (ex ++ K3) → IntsAre ys out → IntsAre X'.vs r → Fed W (T0.take i) out r → out.length + r.length ≤ i → (∀ p ∈ X'.objs w f t, ∀ q ∈ (s1.heap.objs.size + 1 + 1, o23) :: (ex ++ K3), @Ne Nat p.1 q.1) → GG) → GG) ?_ ?_ ?_
                  · exact fun GG kk => kk X3 [] [] [] rfl IntsAre.nil hx6 (Fed.nil W) (Nat.le_refl _) hap65
                  · intro C IE DD i v ys e2 mc news₂ hC tkC oE oL hv hJ hC0 hI0 hD0 hDC hnn htl3 FC NC
                    -- A
                    refine hJ _ ?_
                    clear hJ
                    rintro X4 ex out4 r4 rfl hys hx4 hfed4 hl4 hap4
                    obtain ⟨n, tn, rfl, hn⟩ := hts.at i v hv
                    have hi : i < T0.length := (List.getElem?_eq_some_iff.mp hn).1
                    refine assign_name (env := compEnvC _ _ C _) rfl rfl FC NC (fun h70 F70 N70 k70 => ?_)
                    clear FC NC F66 N67 k70
                    have N71 : News s1.heap C h70 (X4.objs w f t ++ (s1.heap.objs.size + 1 + 1, o23) :: (ex ++ (K3 ++ [(IE, oE), (DD, listOf ys.toArray e2), (s1.heap.objs.size, oL)]))) := news_sub N70 fun q hq => by
                      simp only [List.cons_append, List.append_assoc, List.mem_cons, List.mem_append, List.not_mem_nil, or_false] at hq ⊢
                      exact hq
                    have frn : ∀ q ∈ X4.objs w f t ++ (s1.heap.objs.size + 1 + 1, o23) :: (ex ++ (K3 ++ [(IE, oE), (DD, listOf ys.toArray e2), (s1.heap.objs.size, oL)])), h70.get? q.1 = some q.2 := fun q hq => (N71 q hq).1
                    clear N70
                    have N71x : True → News s1.heap C h70 (X4.objs w f t ++ (s1.heap.objs.size + 1 + 1, o23) :: (ex ++ (K3 ++ [(IE, oE), (DD, listOf ys.toArray e2), (s1.heap.objs.size, oL)]))) := fun _ => N71
                    simp only [FD.objs, List.cons_append, List.nil_append] at N71
                    walk_at "ML"
                    refine feed_led (rest := (s1.heap.objs.size + 1 + 1, o23) :: (ex ++ (K3 ++ [(IE, oE), (DD, listOf ys.toArray e2), (s1.heap.objs.size, oL)]))) (Ok.deeper (okc.mono (by decide : 8 ≤ 40))) G' TT hEv F70 (N71x trivial) (fun q hq => (by have h90 := hD5 q hq; walk_at "IN")) hx4 (fun p hp q hq => ?_) (by omega) (fun X5 fl5 fvs5 ef5 out5 r5 h74 tk74 ed5 hx5 hf5 hdr5 hfr5 F74 N74 hap5 => ?_)
                    · have hpn := hnn p (List.mem_append_left _ hp)
                      simp only [List.mem_cons, List.mem_append, List.not_mem_nil, or_false] at hq
                      rcases hq with rfl | hq | hq | rfl | rfl | rfl
                      · exact hap4 p hp _ (List.Mem.head _)
                      · exact hap4 p hp q (List.mem_cons_of_mem _ (List.mem_append_left _ hq))
                      · exact hap4 p hp q (List.mem_cons_of_mem _ (List.mem_append_right _ hq))
                      · exact hpn.1
                      · exact hpn.2.1
                      · exact hpn.2.2
                    have hlen5 := drain_len hdr5
                    rw [List.length_append] at hlen5
                    simp only [List.length_cons, List.length_nil] at hlen5
                    have hfed6 := hfed4.step hps hdr5
                    rw [show T0.take i ++ [n] = T0.take (i + 1) by rw [List.take_add_one, hn]; rfl] at hfed6
                    have hysl := hys.length
                    have hf5l := hf5.length
                    have fr5 : ∀ a o, h70.get? a = some o → @Ne Nat fl5 a := fun a o e z => by
                      have hz : h70.get? fl5 = none := hfr5
                      rw [z, e] at hz; cases hz
                    have N75 : News s1.heap C h74 ((X5.objs w f t ++ (s1.heap.objs.size + 1 + 1, o23) :: ([(fl5, listOf fvs5.toArray ef5)] ++ K3)) ++ [(IE, oE), (DD, listOf ys.toArray e2), (s1.heap.objs.size, oL)]) := news_sub N74 (by walk_at "SUB")
                    refine ⟨fl5, fvs5, ef5, h74, tk74, _, X5.objs w f t ++ (s1.heap.objs.size + 1 + 1, o23) :: ([(fl5, listOf fvs5.toArray ef5)] ++ K3), rfl, rfl, F74, N75, fun q hq => ?_, (N75 (tl, listOf ts.toArray e17) (by walk_at "IN")).1, by simp, Nat.le_trans (m := 64) (by omega) (by decide), fun GG kk => kk X5 [(fl5, listOf fvs5.toArray ef5)] (out4 ++ out5) r5 rfl (IntsAre.append hys hf5) hx5 hfed6 (by rw [List.length_append]; exact ix7 hl4 hlen5) (fun p hp q hq => ?_)⟩
                    · rcases List.mem_append.mp hq with hq | hq
                      · exact ⟨hap5 q hq (IE, oE) (by walk_at "IN"), hap5 q hq (DD, listOf ys.toArray e2) (by walk_at "IN"), hap5 q hq (s1.heap.objs.size, oL) (by walk_at "IN")⟩
                      · simp only [List.cons_append, List.nil_append, List.mem_cons] at hq
                        rcases hq with rfl | rfl | hq
                        · exact hnn (s1.heap.objs.size + 1 + 1, o23) (List.mem_append_right _ (List.Mem.head _))
                        · exact ⟨fr5 _ _ (frn (IE, oE) (by walk_at "IN")), fr5 _ _ (frn (DD, listOf ys.toArray e2) (by walk_at "IN")), fr5 _ _ (frn (s1.heap.objs.size, oL) (by walk_at "IN"))⟩
                        · exact hnn q (List.mem_append_right _ (List.mem_cons_of_mem _ (List.mem_append_right _ hq)))
                    · refine hap5 p hp q ?_
                      (revert q; walk_at "SUB")
                    -- B
                  · intro C DD h75 tk75 ys e7 mc news₂ hJ hC0 hD0 hDC hnsC hnC hnD F75 N75 htl75
                    refine hJ _ ?_
                    clear hJ
                    rintro X4 ex out4 r4 rfl hys hx4 hfed4 hl4 hap4
                    rw [hts.length, List.take_length] at hfed4
                    have hysl := hys.length
                    refine fin_none hC0 F66 hDC hnsC hnC F75 N75 (fun h76 F76 N76 => ?_)
                    clear F66 N67 F75 N75 htl75
                    have N77 : News s1.heap s1.heap.objs.size h76 (X4.objs w f t ++ (DD, listOf ys.toArray e7) :: (s1.heap.objs.size + 1 + 1, o23) :: K3) := news_sub N76 (by walk_at "SUB")
                    have hap77 : ∀ p ∈ X4.objs w f t, ∀ q ∈ (DD, listOf ys.toArray e7) :: (s1.heap.objs.size + 1 + 1, o23) :: K3, @Ne Nat p.1 q.1 := fun p hp q hq => by
                      simp only [List.mem_cons] at hq
                      rcases hq with rfl | rfl | hq
                      · exact hnD p (List.mem_append_left _ hp)
                      · exact hap4 p hp _ (List.Mem.head _)
                      · exact hap4 p hp q (List.mem_cons_of_mem _ (List.mem_append_right _ hq))
                    clear N76 hap4 hnC hnD
                    have N77x : True → News s1.heap s1.heap.objs.size h76 (X4.objs w f t ++ (DD, listOf ys.toArray e7) :: (s1.heap.objs.size + 1 + 1, o23) :: K3) := fun _ => N77
                    simp only [FD.objs, List.cons_append, List.nil_append] at N77
                    have X76 : (hd.heap_39 w.params).In h76 := G'.X.keeps F76.keep
                    walk_at "ML"
                    refine call_nil ?_
                    refine finish_led (rest := (DD, listOf ys.toArray e7) :: (s1.heap.objs.size + 1 + 1, o23) :: K3) (Ok.deeper (okc.mono (by decide : 8 ≤ 40))) G' TT hEv F76 (N77x trivial) (fun q hq => (by have h90 := hD5 q hq; walk_at "IN")) hx4 hap77 (by omega) (fun X5 fl7 fvs7 ef7 out7 r7 h78 tk78 ed7 hx7 hf7 hdr7 hfr7 F78 N78 hap78 => ?_)
                    obtain rfl := drain_rest hdr7
                    clear F76 N77 hap77
                    have hlen7 := drain_len hdr7
                    simp only [FD.objs, List.cons_append, List.nil_append] at N78
                    refine kmk_add_ints F78 N78 (isList_of (N78 (DD, listOf ys.toArray e7) (by walk_at "IN")).1) (isList_of (N78 (fl7, listOf fvs7.toArray ef7) (by walk_at "IN")).1) hys hf7 (fun D8 us8 h79 F79 N79 lt79 hus8 => ?_) (Nat.le_trans (m := 64) (by simp only [List.length_nil] at hlen7; omega) (by decide))
                    have N80 : News s1.heap s1.heap.objs.size h79 ((D8, listOf us8.toArray 0) :: (s1.heap.objs.size + 1 + 1, o23) :: K3) := news_sub N79 (by walk_at "SUB")
                    clear F78 N78 N79 lt79 hap78
                    walk_at "ML"
                    rename_i h81 F81 N81
                    refine run_spec (h₀ := s1.heap) (Ok.deeper (okc.mono (by decide : 9 ≤ 40))) G' F81.keep (N81 (wl, listOf items.toArray ew) (by walk_at "IN")).1 (hW.mono (fun a o hm => (N81 (a, o) (by have h90 := hwo5 _ hm; walk_at "IN")).1)) hW6 hW4 hW10 (N81 (tl, listOf ts.toArray e17) (by walk_at "IN")).1 hts (by omega) (fun fl9 fvs9 ef9 out9 h82 tk82 hfl9 hf9 hdr9 hfr9 k82 => ?_)
                    obtain rfl := hfed4.total hdr7 hdr9
                    have F82 := Fr.keeps F81 k82
                    have N82 : News s1.heap s1.heap.objs.size h82 ((fl9, listOf fvs9.toArray ef9) :: (D8, listOf us8.toArray 0) :: (s1.heap.objs.size + 1 + 1, o23) :: K3) := fun q hq => by
                      rcases List.mem_cons.mp hq with rfl | hq
                      · exact ⟨hfl9, fr_new F81 hfr9⟩
                      · exact News.grown N81 k82 q hq
                    clear F81 N81
                    walk_at "ML"
                    refine ne_intsK (isList_of (N82 (D8, listOf us8.toArray 0) (by walk_at "IN")).1) hus8 (isList_of (N82 (fl9, listOf fvs9.toArray ef9) (List.Mem.head _)).1) hf9 (Nat.lt_of_le_of_lt (Nat.add_le_add_left (by decide) _) (Ok.deeper okc).un) ?_
                    rw [hne1]
                    walk_at "ML"
                    have hKI5 : (I, oI) ∈ K3 := hK23 _ (hKK _ hKI)
                    have hK5 : ∀ q ∈ K, q ∈ K3 := fun q hq => hK23 _ (hKK _ hq)
                    refine (show TurnEnd _ _ _ _ _ _ _ _ from mkTurn (news' := (p, penOf c i17 v17 t117 t217 0) :: (rl, listOf rs.toArray er) :: (c, listOf cs.toArray 0) :: (s1.heap.objs.size + 1 + 1, o23) :: (s1.heap.objs.size + 1, o1') :: (wl, listOf items.toArray ew) :: wo) F82 (news_sub N82 fun q hq => ?_) (fun q hq => ?_) (fun q hq => nomatch hq) (fun GG kk => kk i17 v17 t117 t217 o23 _ rfl d23 i170 i17b v170 rfl e6 rfl))
                    · have b1 := hK5 _ (hKback (p, penOf c i17 v17 t117 t217 0) (by walk_at "IN"))
                      have b2 := hK5 _ (hKback (c, listOf cs.toArray 0) (by walk_at "IN"))
                      have b3 := hK5 _ (hKback (s1.heap.objs.size + 1, o1') (by walk_at "IN"))
                      revert q
                      exact subApp (subCons (by walk_at "IN") (subCons (by walk_at "IN") (subCons (by walk_at "IN") (subCons (by walk_at "IN") (subCons (by walk_at "IN") (subCons (by walk_at "IN") (fun q hq => List.mem_cons_of_mem _ (List.mem_cons_of_mem _ (List.mem_cons_of_mem _ (hwo5 q hq)))))))))) (subCons (by walk_at "IN") subNil)
                    · simp only [List.mem_cons] at hq
                      rcases hq with rfl | rfl | rfl | rfl | rfl | rfl | hq
                      · exact hnI (p, penOf c i22 v22 t122 t222 0) (by walk_at "IN")
                      · exact hnI (rl, listOf rs.toArray er) (by walk_at "IN")
                      · exact hnI (c, listOf cs.toArray 0) (by walk_at "IN")
                      · exact hnI (s1.heap.objs.size + 1 + 1, o22) (by walk_at "IN")
                      · exact hnI (s1.heap.objs.size + 1, o1') (by walk_at "IN")
                      · exact hnI (wl, listOf items.toArray ew) (by walk_at "IN")
                      · exact hnI q (by walk_at "IN")
          · intro h22 tk22 m₁ news₁ hJ F22 N22
            refine hJ _ ?_
            clear hJ
            rintro i22 v22 t122 t222 o22 ov rfl dov i220 i22le v220 hm1 hm2 hm3
            walk_at "FOLD"
            walk_at "M"
            wrow_close)
end Mine

theorem PySem.Challenge.cw_pb0154_01_holds : PySem.Challenge.rw_pb0154_01.Holds := by
  exact Mine.PW_pb0154_01_holds
