import PyProof.Rows.All
import Wide.All
import OpenK.AllK
import Wide.FinOn
import PySem.Challenge.RW_nu0071_01
open PySem PySem.W PyProof.Rows PySem.Calls
set_option Elab.async false
set_option maxRecDepth 100000
set_option linter.all false
set_option compiler.extract_closed false
set_option genInjectivity false
set_option genSizeOf false
local macro_rules | `(tactic| omega) => `(tactic| lia)
namespace Mine

inductive HereAt (A : Around) (h : Heap) : Prop
  | ik (A₀ : Around) (base h₀ : Heap) (outer : List Env) (env : Env) (L : Addr) (m : Str → Option Value) (p : Program) (loose : List Str) (mean : ExcName → Option Value) (mg mb : Str → Option Value)
     (f0 : Below A₀ base outer h₀) (f1 : Fr h₀ L h m) (f2 : Top p loose mean mg mb h) (f3 : A.frames = some (env :: outer)) (f4 : env.frame = some L) (f5 : env.scope.kind = .function) : HereAt A h
structure Here (K : Frag) (A : Around) (h : Heap) : Prop where
  inK : K.In h
  hand : A.handled = none
  at_ : HereAt A h

noncomputable def Room (A : Around) (n : Nat) : Prop := A.depth + n < recursionLimit ∧ A.units + 8 * n + 200 < cLine

noncomputable abbrev arnd (d : Nat) (env : Env) (outer : List Env) (gd : Option (List Code)) (u : Nat) : Around := { handled := none, depth := d, frames := some (env :: outer), guards := gd, units := u }

section
variable {prog : Program} {w : World} {A : Around} {s : Shared} {K : Frag}
  {name qual : Str} {params : Arguments} {body : List Stmt} {scope : Scope} {dV kV doc pm cdv ct oc : Value} {an od : Option Addr} {osl : Array (Option Value)} {f : Addr} {vals : List Value} {binds : List (Str × Value)} {Q E : Value → Shared → Prop} {n : Nat}

theorem call_own (H : Here K A s.heap) (hr : Room A (n + 1))
    (ho : K.lookup f = some ⟨oc, od, .func (fnOf name qual params body scope dV kV doc pm an cdv ct), osl⟩) (hcd : codeIn K cdv qual = true)
    (hbind : BindsTo s (fnOf name qual params body scope dV kV doc pm an cdv ct) ⟨vals, []⟩ ((params.args.map (·.arg)).zip vals)) (hloc : ∀ y ∈ (params.args.map (·.arg)).zip vals, scope.names.lookup y.1 = some .local)
    (h : ∀ (A₀ : Around) (base : Heap) (outer : List Env) (p : Program) (loose : List Str) (mean : ExcName → Option Value) (mg mb : Str → Option Value) (d u : Nat) (gd : Option (List Code)) (L' : Addr) (h₁ : Heap) (tk₁ : Nat),
      Below A₀ base outer s.heap → K.In s.heap → Top p loose mean mg mb s.heap → Fr s.heap L' h₁ (fun y => ((params.args.map (·.arg)).zip vals).reverse.lookup y) → News s.heap L' h₁ [] → d + n < recursionLimit → u + 8 * n + 200 < cLine →
      wpAny (model prog w) (arnd d (envOf qual scope L' f cdv) outer gd u) (execs body (envOf qual scope L' f cdv))
        (fun fl s' => Q (match fl with | .ret v => v | _ => .none) s') (fun _ _ => False) { s with heap := h₁, toks := tk₁ })
    (hco : scope.isCoroutine = false) (hgen : scope.isGenerator = false) (hk : scope.kind = .function)
    (hcell : ∀ x ∈ scope.names, x.2 ≠ .cell) : wpAny (model prog w) A (call (.ref f) vals) Q E s := by
  obtain ⟨X, hh, A₀, base, h₀, outer, env, L, m, p, loose, mean, mg, mb, B, F, T, hA, hf, hke⟩ := H
  have G := groundX (R := fun _ _ => True) (news := []) B F News.nil hA hf hke
  have G2 : Below A base (env :: outer) s.heap := G.2.1
  refine wpAny_call (codeAny_call_def (fd := fnOf name qual params body scope dV kV doc pm an cdv ct) (body := body) (binds := (params.args.map (·.arg)).zip vals) (Nat.lt_of_le_of_lt (Nat.le_add_right _ _) hr.1) (X _ _ ho) rfl T.nolimit (codeRec_of X hcd) rfl hbind hcell hloc (fun h₁ hns hk₁ => ?_) hco hgen hk)
  have hd : A.deeper (envOf qual scope s.heap.objs.size f cdv) = arnd (A.depth + 1) (envOf qual scope s.heap.objs.size f cdv) (env :: outer) A.guards (A.units + 3) := by
    obtain ⟨hd, dp, fr, gs, u⟩ := A
    simp only at hh hA
    subst hh hA
    rfl
  have key := h A base (env :: outer) p loose mean mg mb (A.depth + 1) (A.units + 3) A.guards s.heap.objs.size h₁ (s.toks + ((params.args.map (·.arg)).zip vals).length) G2 X T ⟨hns, hk₁, Nat.le_refl _⟩ News.nil (by have := hr.1; omega) (by have := hr.2; omega)
  rw [← hd] at key
  exact wpAny_mono key (fun _ _ q => q) fun _ _ q => q.elim
end

theorem here_of {K : Frag} {A₀ : Around} {base g h : Heap} {outer : List Env} {p : Program} {loose : List Str} {mean : ExcName → Option Value} {mg mb : Str → Option Value} {d u : Nat} {gd : Option (List Code)} {L : Addr} {m : Str → Option Value} {env : Env}
    (B : Below A₀ base outer g) (X : K.In g) (T : Top p loose mean mg mb g) (F : Fr g L h m) (hf : env.frame = some L) (hk : env.scope.kind = .function) : Here K (arnd d env outer gd u) h :=
  ⟨X.keeps F.keep, rfl, A₀, base, g, outer, env, L, m, p, loose, mean, mg, mb, B, F, T.keeps F.keep, rfl, hf, hk⟩

theorem fr_stays {g h h' : Heap} {L : Addr} {m : Str → Option Value} (F : Fr g L h m) (st : h.StaysIn h') : Fr g L h' m :=
  ⟨F.ns.keeps st, fun b o e => st b o (F.keep b o e), F.above⟩
theorem news_stays {g h h' : Heap} {L : Addr} {news : List (Addr × Obj)} (N : News g L h news) (st : h.StaysIn h') : News g L h' news :=
  fun p hp => ⟨st _ _ (N p hp).1, (N p hp).2⟩

noncomputable def RO (prog : Program) (w : World) (K : Frag) (f : Addr) (vals : List Value) (n : Nat) (pre : Heap → Prop) (post : Heap → Heap → Value → Prop) : Prop :=
  ∀ (A : Around) (s : Shared) (Q E : Value → Shared → Prop), Here K A s.heap → Room A n → pre s.heap →
    (∀ (h' : Heap) (tk' : Nat) (r : Value), s.heap.StaysIn h' → post s.heap h' r → Q r { s with heap := h', toks := tk' }) →
    wpAny (model prog w) A (call (.ref f) vals) Q E s

section
variable {prog : Program} {w : World} {K : Frag} {A₀ : Around} {base g : Heap} {outer : List Env} {p : Program} {loose : List Str} {mean : ExcName → Option Value} {mg mb : Str → Option Value} {d u : Nat} {gd : Option (List Code)} {L : Addr} {m : Str → Option Value} {env : Env}
  {f : Addr} {vals : List Value} {n k : Nat} {pre : Heap → Prop} {post : Heap → Heap → Value → Prop} {s : Shared} {Q E : Value → Shared → Prop} {news : List (Addr × Obj)}
theorem ro_use (S : RO prog w K f vals n pre post) (B : Below A₀ base outer g) (X : K.In g) (T : Top p loose mean mg mb g) (F : Fr g L s.heap m) (N : News g L s.heap news) (hd : d + n < recursionLimit) (hu : u + 8 * n + 200 < cLine)
    (hp : pre s.heap)
    (h : ∀ (h' : Heap) (tk' : Nat) (r : Value), Fr g L h' m → News g L h' news → s.heap.StaysIn h' → post s.heap h' r → Q r { s with heap := h', toks := tk' })
    (hf : env.frame = some L) (hk : env.scope.kind = .function) :
    wpAny (model prog w) (arnd d env outer gd u) (call (.ref f) vals) Q E s :=
  S _ s Q E (here_of B X T F hf hk) ⟨hd, hu⟩ hp fun h' tk' r st q => h h' tk' r (fr_stays F st) (news_stays N st) st q
end

end Mine
namespace Mine

structure NRow where
  kind : Str
  name : Str
  uri : Str
  loc : Str
  value : Str
  parent : Option Nat
  children : List Nat
  attrs : List Nat
  nss : List Nat
  deriving Inhabited

inductive PVal : Option Nat → Value → Prop
  | none : PVal none .none
  | some (p : Nat) (t : Tok) : PVal (some p) (.int p t)

inductive Nodes (h : Heap) (l : Addr) (ns : List Nat) : Prop
  | ik (vs : _) (n : _)
    (f0 : h.get? l = some (listOf (List.toArray vs) n))
    (f1 : IntsAre vs (ns.map Int.ofNat)) : Nodes h l ns

noncomputable abbrev rowEnts (P : Params) (k1 k2 k3 k4 k5 k6 k7 k8 k9 : Tok) (v1 v2 v3 v4 v5 v6 v7 v8 v9 : Value) : List DictEntry :=
  [⟨PyData.keyHash P (Str.ofString "kind"), .str (Str.ofString "kind") k1, v1⟩, ⟨PyData.keyHash P (Str.ofString "name"), .str (Str.ofString "name") k2, v2⟩,
   ⟨PyData.keyHash P (Str.ofString "uri"), .str (Str.ofString "uri") k3, v3⟩, ⟨PyData.keyHash P (Str.ofString "local"), .str (Str.ofString "local") k4, v4⟩,
   ⟨PyData.keyHash P (Str.ofString "value"), .str (Str.ofString "value") k5, v5⟩, ⟨PyData.keyHash P (Str.ofString "parent"), .str (Str.ofString "parent") k6, v6⟩,
   ⟨PyData.keyHash P (Str.ofString "children"), .str (Str.ofString "children") k7, v7⟩, ⟨PyData.keyHash P (Str.ofString "attributes"), .str (Str.ofString "attributes") k8, v8⟩,
   ⟨PyData.keyHash P (Str.ofString "namespaces"), .str (Str.ofString "namespaces") k9, v9⟩]

inductive RowAt (R : Addr) (P : Params) (h : Heap) (a : Addr) (r : NRow) : Prop
  | ik (d lc la ln : Addr) (k1 k2 k3 k4 k5 k6 k7 k8 k9 t1 t2 t3 t4 t5 ep : Nat) (pv : Value)
    (f0 : h.get? a = some (instObj R d))
    (f1 : h.get? d = some (dictOf (rowEnts P k1 k2 k3 k4 k5 k6 k7 k8 k9 (.str r.kind t1) (.str r.name t2) (.str r.uri t3) (.str r.loc t4) (.str r.value t5) pv (.ref lc) (.ref la) (.ref ln)) ep))
    (f2 : PVal r.parent pv)
    (f3 : Nodes h lc r.children)
    (f4 : Nodes h la r.attrs)
    (f5 : Nodes h ln r.nss) : RowAt R P h a r

inductive TreeAt (C R : Addr) (P : Params) (h : Heap) (t : Addr) (T : List NRow) : Prop
  | ik (dt rl : Addr) (tk ep1 ep2 : Nat) (vs : List Value)
    (f0 : h.get? t = some (instObj C dt))
    (f1 : h.get? dt = some (dictOf [⟨PyData.keyHash P (Str.ofString "rows"), .str (Str.ofString "rows") tk, .ref rl⟩] ep1))
    (f2 : h.get? rl = some (listOf vs.toArray ep2))
    (f3 : vs.length = T.length)
    (f4 : ∀ (i : Nat) (r : NRow), T[i]? = some r → ∃ a, vs[i]? = some (Value.ref a) ∧ RowAt R P h a r) : TreeAt C R P h t T

theorem Nodes.stays {h h' : Heap} {l : Addr} {ns : List Nat} (N : Nodes h l ns) (st : h.StaysIn h') : Nodes h' l ns := let ⟨vs, n, e, i⟩ := N; ⟨vs, n, st _ _ e, i⟩
theorem RowAt.stays {R : Addr} {P : Params} {h h' : Heap} {a : Addr} {r : NRow} (N : RowAt R P h a r) (st : h.StaysIn h') : RowAt R P h' a r := by
  obtain ⟨d, lc, la, ln, k1, k2, k3, k4, k5, k6, k7, k8, k9, t1, t2, t3, t4, t5, ep, pv, e1, e2, e3, e4, e5, e6⟩ := N
  exact ⟨d, lc, la, ln, k1, k2, k3, k4, k5, k6, k7, k8, k9, t1, t2, t3, t4, t5, ep, pv, st _ _ e1, st _ _ e2, e3, e4.stays st, e5.stays st, e6.stays st⟩
theorem TreeAt.stays {C R : Addr} {P : Params} {h h' : Heap} {t : Addr} {T : List NRow} (N : TreeAt C R P h t T) (st : h.StaysIn h') : TreeAt C R P h' t T := by
  obtain ⟨dt, rl, tk, ep1, ep2, vs, e1, e2, e3, e4, e5⟩ := N
  refine ⟨dt, rl, tk, ep1, ep2, vs, st _ _ e1, st _ _ e2, st _ _ e3, e4, fun i r hi => ?_⟩
  obtain ⟨a, ha, hr⟩ := e5 i r hi
  exact ⟨a, ha, hr.stays st⟩

inductive TInst (C : Addr) (P : Params) (h : Heap) (t : Addr) : Prop
  | ik (dt rl : Addr) (tk ep : Nat) (I : InstAt h t (instObj C dt) C (some (dictOf [⟨PyData.keyHash P (Str.ofString "rows"), .str (Str.ofString "rows") tk, .ref rl⟩] ep))) : TInst C P h t
theorem TreeAt.inst {C R : Addr} {P : Params} {h : Heap} {t : Addr} {T : List NRow} (N : TreeAt C R P h t T) : TInst C P h t := by
  obtain ⟨dt, rl, tk, ep1, ep2, vs, e1, e2, e3, e4, e5⟩ := N
  exact ⟨dt, rl, tk, ep1, e1, rfl, rfl, e2⟩
theorem stays_inst {h h' : Heap} {x C : Addr} {ox od : Obj} (I : InstAt h x ox C (some od)) (st : h.StaysIn h') : InstAt h' x ox C (some od) := by
  obtain ⟨i1, i2, i3, i4⟩ := I
  refine ⟨st _ _ i1, i2, i3, ?_⟩
  cases hd : ox.dict with
  | none => rw [hd] at i4; exact i4
  | some dx => rw [hd] at i4; exact st _ _ i4

theorem mkInst {h : Heap} {a d R : Addr} {es : List DictEntry} {ep : Nat} (e1 : h.get? a = some (instObj R d)) (e2 : h.get? d = some (dictOf es ep)) : InstAt h a (instObj R d) R (some (dictOf es ep)) := ⟨e1, rfl, rfl, e2⟩
theorem inst_keep {g h : Heap} {L x C : Addr} {m : Str → Option Value} {ox od : Obj} (I : InstAt g x ox C (some od)) (F : Fr g L h m) : InstAt h x ox C (some od) := stays_inst I F.keep
theorem list_keep {g h : Heap} {L x : Addr} {m : Str → Option Value} {xs : Array Value} (I : g.IsList x xs) (F : Fr g L h m) : h.IsList x xs := let ⟨o, a, b⟩ := I; ⟨o, F.keep _ _ a, b⟩

section
variable {prog : Program} {w : World} {A : Around} {E : Value → Shared → Prop} {s : Shared}
theorem item_at {value slice : PySem.Expr} {l : Addr} {vs : List Value} {k : Nat} {u : Tok} {v : Value} {Q : Value → Shared → Prop} (hl : s.heap.IsList l vs.toArray) (hx : vs[k]? = some v) (hfit : k < 2 ^ 24) (h : Q v s)
    (hs : subscripted slice false (.ref l) (.int k u) = operate [.ref l, .int k u] (getItem (.ref l) (.int k u)) := by with_unfolding_all rfl) :
    wpAny (model prog w) A (subscriptTail value slice (.ref l) (.int k u)) Q E s :=
  tail_any hl.typeIs slot_list_getitem.lookup (wpAny_getItem_list hl (Int.natCast_nonneg k) (by omega) (by simpa using hx) h) hs
theorem len_at {l : Addr} {vs : List Value} {Q : Value → Shared → Prop} (hl : s.heap.IsList l vs.toArray) (hfit : vs.length < 2 ^ 24) (h : ∀ t k, Q (.int (vs.length : Nat) t) { s with toks := k }) :
    wpAny (model prog w) A (call (.builtin "len") [.ref l]) Q E s :=
  len_list hl (by simp only [List.size_toArray]; omega) (by simpa only [List.size_toArray] using h _ _)
end
end Mine
namespace Mine

noncomputable abbrev NV (vs : List Value) (ns : List Nat) : Prop := IntsAre vs (ns.map Int.ofNat)

theorem NV.len {vs : List Value} {ns : List Nat} (h : NV vs ns) : vs.length = ns.length := by rw [IntsAre.length h, List.length_map]
inductive NVG (ns : List Nat) (i : Nat) (v : Value) : Prop
  | ik (n : Nat) (t : Nat) (h : ns[i]? = some n) (e : v = .int n t) : NVG ns i v
theorem NV.get {vs : List Value} {ns : List Nat} (h : NV vs ns) {i : Nat} {v : Value} (hv : vs[i]? = some v) : NVG ns i v := by
  have hi : i < ns.length := by rw [← h.len]; exact (List.getElem?_eq_some_iff.mp hv).1
  obtain ⟨t, ht⟩ := IntsAre.get h i (Int.ofNat (ns[i])) (by simp [hi])
  rw [hv] at ht
  exact ⟨ns[i], t, by simp [hi], Option.some.inj ht⟩
theorem NV.get' {vs : List Value} {ns : List Nat} (h : NV vs ns) {i n : Nat} (hn : ns[i]? = some n) : ∃ t, vs[i]? = some (.int n t) := by
  obtain ⟨t, ht⟩ := IntsAre.get h i (Int.ofNat n) (by simp [hn])
  exact ⟨t, ht⟩
theorem NV.rev {vs : List Value} {ns : List Nat} (h : NV vs ns) : NV vs.reverse ns.reverse := by
  have := IntsAre.reverse h
  rwa [← List.map_reverse] at this
theorem NV.app {vs ws : List Value} {ns ms : List Nat} (h : NV vs ns) (h' : NV ws ms) : NV (vs ++ ws) (ns ++ ms) := by
  have := IntsAre.append h h'
  rwa [← List.map_append] at this
theorem nil_or_snoc {α : Type} (l : List α) : l = [] ∨ ∃ l' x, l = l' ++ [x] := by
  rcases List.eq_nil_or_concat l with h | ⟨l', x, h⟩
  · exact .inl h
  · exact .inr ⟨l', x, by rw [h, List.concat_eq_append]⟩
theorem NV.unsnoc {vs : List Value} {ns : List Nat} {n : Nat} (h : NV vs (ns ++ [n])) : ∃ vs' t, vs = vs' ++ [.int n t] ∧ NV vs' ns := by
  induction ns generalizing vs with
  | nil => cases h with | cons _ t r => cases r; exact ⟨[], t, rfl, .nil⟩
  | cons a ns ih =>
    cases h with
    | cons _ t r =>
      obtain ⟨vs', t', e, h'⟩ := ih r
      subst e
      exact ⟨.int a t :: vs', t', rfl, .cons _ t h'⟩
theorem NV.one {n : Nat} {t : Tok} : NV [.int n t] [n] := .cons _ _ .nil
theorem NV.nil : NV [] [] := IntsAre.nil
theorem NV.snoc {vs : List Value} {ns : List Nat} (h : NV vs ns) (n : Nat) (t : Tok) : NV (vs ++ [.int n t]) (ns ++ [n]) := h.app .one
theorem NV.take {vs : List Value} {ns : List Nat} (k : Nat) (h : NV vs ns) : NV (vs.take k) (ns.take k) := by
  induction ns generalizing vs k with
  | nil => cases h; simp; exact .nil
  | cons n ns ih =>
    cases h with
    | cons _ t r =>
      cases k with
      | zero => exact .nil
      | succ k => exact .cons _ t (ih k r)
theorem NV.drop {vs : List Value} {ns : List Nat} (k : Nat) (h : NV vs ns) : NV (vs.drop k) (ns.drop k) := by
  induction ns generalizing vs k with
  | nil => cases h; simp; exact .nil
  | cons n ns ih =>
    cases h with
    | cons _ t r =>
      cases k with
      | zero => exact .cons _ t r
      | succ k => exact ih k r

theorem any_isInt {us : List Value} {ks : List Nat} (h : NV us ks) (k : Nat) : us.any (isInt k) = decide (k ∈ ks) := by
  induction ks generalizing us with
  | nil => cases h; rfl
  | cons n ks ih =>
    cases h with
    | cons _ t r =>
      rw [List.any_cons, ih (us := _) r]
      have e : isInt (k : Int) (.int (Int.ofNat n) t) = decide (k = n) := by
        show ((Int.ofNat n) == (k : Int)) = _
        by_cases hk : k = n
        · subst hk; simp
        · simp [hk]; omega
      rw [e]
      by_cases hk : k = n <;> simp [hk]
theorem ints_NV {us : List Value} {ks : List Nat} (h : NV us ks) : kf_ints us = true := by
  induction ks generalizing us with
  | nil => cases h; rfl
  | cons n ks ih => cases h with | cons _ t r => (have q := ih r; exact q)
theorem NV.inj {ns ms : List Nat} : (ns.map Int.ofNat = ms.map Int.ofNat) ↔ ns = ms := by
  constructor
  · intro h
    induction ns generalizing ms with
    | nil => cases ms with | nil => rfl | cons _ _ => cases h
    | cons n ns ih =>
      cases ms with
      | nil => cases h
      | cons k ms =>
        simp only [List.map_cons, List.cons.injEq] at h
        rw [ih h.2, Int.ofNat.inj h.1]
  · intro h; rw [h]
section
variable {prog : Program} {w : World} {A : Around} {E : Value → Shared → Prop} {s : Shared} {h₀ : Heap} {L D : Addr} {m : Str → Option Value} {news news' : List (Addr × Obj)} {n : Nat} {vs ws : List Value} {ns ms : List Nat}

theorem app_r {x : Value} {Q : Value → Shared → Prop} (F : Fr h₀ L s.heap m) (N : News h₀ L s.heap news) (U : Upd D (listOf vs.toArray n) (listOf (vs ++ [x]).toArray (n + 1)) news news') (hz : vs.length < 2 ^ 20)
    (h : ∀ h', Fr h₀ L h' m → News h₀ L h' news' → Q .none { s with heap := h' }) : wpAny (model prog w) A (call (.builtin "list.append") [.ref D, x]) Q E s := by
  refine append_K (its := vs.toArray) (n := n) F N ?_ h (by simp only [List.size_toArray]; unfold sizeLine; omega)
  rw [List.push_toArray]; exact U

theorem pop_r {Q : Value → Shared → Prop} {x : Nat} {t : Tok} (F : Fr h₀ L s.heap m) (N : News h₀ L s.heap news) (U : Upd D (listOf (vs ++ [Value.int x t]).toArray n) (listOf vs.toArray (n + 1)) news news') (hz : vs.length < 2 ^ 20)
    (h : ∀ h', Fr h₀ L h' m → News h₀ L h' news' → Q (.int x t) { s with heap := h' }) : wpAny (model prog w) A (call (.builtin "list.pop") [.ref D]) Q E s := by
  refine kl_pop F N (p := vs) (y := .int x t) ?_ U (by simp only [List.size_toArray, List.length_append, List.length_singleton]; unfold sizeLine; omega) h
  exact kpa_last _ _

theorem ext_r {b : Addr} {n2 : Nat} {g : Obj → List (Addr × Obj)} {Q : Value → Shared → Prop} (F : Fr h₀ L s.heap m) (N : News h₀ L s.heap news) (hb : s.heap.get? b = some (listOf ws.toArray n2)) (U : UpdF D (listOf vs.toArray n) news g)
    (hz : vs.length + ws.length < 2 ^ 20)
    (h : ∀ h' n', Fr h₀ L h' m → News h₀ L h' (g (listOf (vs ++ ws).toArray n')) → Q .none { s with heap := h' }) : wpAny (model prog w) A (call (.builtin "list.extend") [.ref D, .ref b]) Q E s := by
  obtain ⟨pre, post, e1, hg, a, c⟩ := U.split
  subst e1
  refine extend_in (ys := vs) (its2 := ws.toArray) (n := n) (n2 := n2) F N a c hb (fun h' n' F' N' => h h' n' F' ?_) (by simp only [List.size_toArray]; unfold sizeLine; omega)
  rw [hg]
  exact N'

theorem cat_r {a b : Addr} {Q : Value → Shared → Prop} (F : Fr h₀ L s.heap m) (N : News h₀ L s.heap news) (ha : s.heap.IsList a vs.toArray) (hb : s.heap.IsList b ws.toArray) (hi : NV vs ns) (hj : NV ws ms) (hz : ns.length + ms.length < 2 ^ 20)
    (h : ∀ D h', Fr h₀ L h' m → News h₀ L h' ((D, listOf (vs ++ ws).toArray 0) :: news) → (∀ p ∈ news, p.1 < D) → NV (vs ++ ws) (ns ++ ms) → Q (.ref D) { s with heap := h' }) :
    wpAny (model prog w) A (binaryOp .Add (.ref a) (.ref b)) Q E s :=
  kmk_add_lit (zs := vs ++ ws) F N ha hb rfl (fun D h' F' N' l => h D h' F' N' l (hi.app hj)) (by have := hi.len; have := hj.len; simp only [List.size_toArray]; unfold sizeLine; omega)

theorem copy_r {l : Addr} {Q : Value → Shared → Prop} (F : Fr h₀ L s.heap m) (N : News h₀ L s.heap news) (hl : s.heap.IsList l vs.toArray) (hz : vs.length < 2 ^ 20)
    (h : ∀ D c h', Fr h₀ L h' m → News h₀ L h' ((D, listOf vs.toArray c) :: news) → (∀ q ∈ news, q.1 < D) → Q (.ref D) { s with heap := h' }) :
    wpAny (model prog w) A (call (.type "list") [.ref l]) Q E s := list_copyK F N hl h (by simp only [List.size_toArray]; unfold sizeLine; omega)

theorem rev_r {l : Addr} {value slice : PySem.Expr} {vk : Value} {ops : List Value} {Q : Value → Shared → Prop} (F : Fr h₀ L s.heap m) (N : News h₀ L s.heap news) (hl : s.heap.IsList l vs.toArray) (pk : IsPart vk (some (-1)))
    (hz : vs.length < 2 ^ 20)
    (h : ∀ D h', Fr h₀ L h' m → News h₀ L h' ((D, listOf vs.reverse.toArray 0) :: news) → (∀ p ∈ news, p.1 < D) → Q (.ref D) { s with heap := h' })
    (hs : subscripted slice false (.ref l) (.ref s.heap.objs.size) = operate ops (getItem (.ref l) (.ref s.heap.objs.size))) (ht : ∀ r, letTemporaryGo value (.ref l) r = pure ()) :
    wpAny (model prog w) A (subscriptTail value slice (.ref l) (.ref s.heap.objs.size)) Q E { s with heap := s.heap.push { cls := .type "slice", data := .fields #[.none, .none, vk] } } :=
  krv_lit (zs := vs.reverse) F N hl pk rfl h hs ht (by simp only [List.size_toArray]; unfold sizeLine; omega)

theorem kms_take (vs : List Value) (k : Nat) : kms_pick vs none (some (k : Int)) = vs.take k := by
  unfold kms_pick kms_lo kms_hi; simp [show ¬ ((k : Int) < 0) from by omega]
theorem kms_drop (vs : List Value) (k : Nat) : kms_pick vs (some (k : Int)) none = vs.drop k := by
  unfold kms_pick kms_lo kms_hi; simp only [show ¬ ((k : Int) < 0) from by omega, if_false, Int.toNat_natCast]
  by_cases h : k ≤ vs.length
  · rw [Nat.min_eq_left h]; exact List.take_of_length_le (by simp)
  · rw [Nat.min_eq_right (by omega), List.drop_of_length_le (Nat.le_refl _), List.drop_of_length_le (by omega)]; simp
theorem take_r {l : Addr} {k : Nat} {t : Tok} {value slice : PySem.Expr} {Q : Value → Shared → Prop} (F : Fr h₀ L s.heap m) (N : News h₀ L s.heap news) (hl : s.heap.IsList l vs.toArray)
    (hz : vs.length < 2 ^ 20)
    (h : ∀ D h', Fr h₀ L h' m → News h₀ L h' ((D, listOf (vs.take k).toArray 0) :: news) → (∀ p ∈ news, p.1 < D) → Q (.ref D) { s with heap := h' })
    (hs : subscripted slice false (.ref l) (.ref s.heap.objs.size) = operate [.ref s.heap.objs.size, .ref l] (getItem (.ref l) (.ref s.heap.objs.size))) (ht : ∀ r, letTemporaryGo value (.ref l) r = pure ()) :
    wpAny (model prog w) A (subscriptTail value slice (.ref l) (.ref s.heap.objs.size)) Q E { s with heap := s.heap.push { cls := .type "slice", data := .fields #[.none, .int (k : Nat) t, .none] } } :=
  kms_slice_lit (zs := vs.take k) F N hl .none (.int _ _) (kms_take vs k) h hs ht (by simp only [List.size_toArray]; unfold sizeLine; omega)
theorem drop_r {l : Addr} {k : Nat} {t : Tok} {value slice : PySem.Expr} {Q : Value → Shared → Prop} (F : Fr h₀ L s.heap m) (N : News h₀ L s.heap news) (hl : s.heap.IsList l vs.toArray)
    (hz : vs.length < 2 ^ 20)
    (h : ∀ D h', Fr h₀ L h' m → News h₀ L h' ((D, listOf (vs.drop k).toArray 0) :: news) → (∀ p ∈ news, p.1 < D) → Q (.ref D) { s with heap := h' })
    (hs : subscripted slice false (.ref l) (.ref s.heap.objs.size) = operate [.ref s.heap.objs.size, .ref l] (getItem (.ref l) (.ref s.heap.objs.size))) (ht : ∀ r, letTemporaryGo value (.ref l) r = pure ()) :
    wpAny (model prog w) A (subscriptTail value slice (.ref l) (.ref s.heap.objs.size)) Q E { s with heap := s.heap.push { cls := .type "slice", data := .fields #[.int (k : Nat) t, .none, .none] } } :=
  kms_slice_lit (zs := vs.drop k) F N hl (.int _ _) .none (kms_drop vs k) h hs ht (by simp only [List.size_toArray]; unfold sizeLine; omega)

theorem in_r {l : Addr} {k : Nat} {t : Tok} {Q : Value → Shared → Prop} (hl : s.heap.IsList l vs.toArray) (hi : NV vs ns) (h : Q (.bool (decide (k ∈ ns))) s) :
    wpAny (model prog w) A (compareOp .In (.int k t) (.ref l)) Q E s :=
  SeqInW.in_listW (isInt k) (fun y hy => kf_eq (ints_NV hi) y (by simpa using hy)) hl (by rw [← Array.any_toList, any_isInt hi]; exact h)
theorem notin_r {l : Addr} {k : Nat} {t : Tok} {Q : Value → Shared → Prop} (hl : s.heap.IsList l vs.toArray) (hi : NV vs ns) (h : Q (.bool (!decide (k ∈ ns))) s) :
    wpAny (model prog w) A (compareOp .NotIn (.int k t) (.ref l)) Q E s :=
  SeqInW.notIn_listW (isInt k) (fun y hy => kf_eq (ints_NV hi) y (by simpa using hy)) hl (by rw [← Array.any_toList, any_isInt hi]; exact h)
theorem eq_r {a b : Addr} {Q : Value → Shared → Prop} (ha : s.heap.IsList a vs.toArray) (hb : s.heap.IsList b ws.toArray) (hi : NV vs ns) (hj : NV ws ms) (hu : A.units + 64 < cLine) (h : Q (.bool (decide (ns = ms))) s) :
    wpAny (model prog w) A (compareOp .Eq (.ref a) (.ref b)) Q E s := ke_eq_ints ha hb hi hj hu (by rw [decide_eq_decide.mpr NV.inj]; exact h)
theorem ne_r {a b : Addr} {Q : Value → Shared → Prop} (ha : s.heap.IsList a vs.toArray) (hb : s.heap.IsList b ws.toArray) (hi : NV vs ns) (hj : NV ws ms) (hu : A.units + 64 < cLine) (h : Q (.bool (!decide (ns = ms))) s) :
    wpAny (model prog w) A (compareOp .NotEq (.ref a) (.ref b)) Q E s := ke_ne_ints ha hb hi hj hu (by rw [decide_eq_decide.mpr NV.inj]; exact h)
end
end Mine
namespace Mine
theorem isInt_nat (k n : Nat) (t : Tok) : isInt (k : Int) (.int (Int.ofNat n) t) = decide (n = k) := by
  show ((Int.ofNat n) == (k : Int)) = _
  by_cases hk : n = k
  · subst hk; simp
  · simp [hk]; omega
theorem idx_spec {k : Nat} : ∀ {ks : List Nat} {us : List Value}, NV us ks → k ∈ ks → (∃ t, us[ks.idxOf k]? = some (.int k t)) ∧ ∀ m v, m < ks.idxOf k → us[m]? = some v → isInt k v = false
  | [], _, _, h => by cases h
  | n :: ks, us, hv, h => by
    cases hv with
    | cons _ t r =>
      by_cases hn : n = k
      · subst hn
        have e : (n :: ks).idxOf n = 0 := by simp
        rw [e]
        exact ⟨⟨t, rfl⟩, fun m _ hm => absurd hm (Nat.not_lt_zero _)⟩
      · have e : (n :: ks).idxOf k = ks.idxOf k + 1 := by
          have q : (n == k) = false := by simp [hn]
          rw [List.idxOf_cons, q]; rfl
        have hk : k ∈ ks := by rcases List.mem_cons.mp h with rfl | h; exact absurd rfl hn; exact h
        obtain ⟨⟨t', h1⟩, h2⟩ := idx_spec r hk
        rw [e]
        refine ⟨⟨t', by rw [List.getElem?_cons_succ]; exact h1⟩, fun m v hm hv => ?_⟩
        cases m with
        | zero =>
          simp only [List.getElem?_cons_zero, Option.some.injEq] at hv
          subst hv
          rw [isInt_nat]; simpa using hn
        | succ m => rw [List.getElem?_cons_succ] at hv; exact h2 m v (by omega) hv
section
variable {prog : Program} {w : World} {A : Around} {E : Value → Shared → Prop} {s : Shared} {vs : List Value} {ns : List Nat}
theorem index_r {l : Addr} {k n : Nat} {t : Tok} {Q : Value → Shared → Prop} (hl : s.heap.get? l = some (listOf vs.toArray n)) (hi : NV vs ns) (hk : k ∈ ns) (hz : vs.length < 2 ^ 20)
    (h : ∀ t' tk, Q (.int (ns.idxOf k : Nat) t') { s with toks := tk }) : wpAny (model prog w) A (call (.builtin "list.index") [.ref l, .int k t]) Q E s := by
  have hlt : ns.idxOf k < ns.length := List.idxOf_lt_length_of_mem hk
  have hlen := hi.len
  obtain ⟨⟨t', h1⟩, h2⟩ := idx_spec hi hk
  refine call_meets PySem.F.slot_list_index ⟨_, hl, rfl⟩ PySem.F.entry_list_index (PySem.F.args_list_index_2 _ _)
    (MeetsSeq.list_index l vs.toArray n (.int k t) (isInt k) (fun y hy => kf_eq (ints_NV hi) y (by simpa using hy)) (ns.idxOf k) (by simp; omega) (by omega) ?_ ?_) ⟨hl, h _ _⟩
  · have : vs.toArray[ns.idxOf k]'(by simp; omega) = .int k t' := by
      have := (List.getElem?_eq_some_iff.mp h1).2
      simpa using this
    rw [this, show isInt (k : Int) (.int (k : Int) t') = ((k : Int) == (k : Int)) from rfl]; simp
  · intro m hm hlt2
    refine h2 m _ hlt2 ?_
    simp
end
end Mine
namespace Mine

noncomputable def setv (ps : List (Str × Value)) (st : List Str) (u m₀ : Str → Option Value) : Str → Option Value :=
  fun z => match ps.lookup z with
    | some v => some v
    | none => if st.contains z = true then u z else m₀ z

theorem setv_of {ps : List (Str × Value)} {st : List Str} {m₁ m₀ : Str → Option Value} (h1 : ∀ p ∈ ps, m₁ p.1 = some p.2) (h2 : ∀ z, ps.lookup z = none → st.contains z = false → m₁ z = m₀ z) : m₁ = setv ps st m₁ m₀ := by
  funext z
  unfold setv
  cases hl : ps.lookup z with
  | some v =>
    simp only
    have : (z, v) ∈ ps := by
      clear h1 h2
      induction ps with
      | nil => cases hl
      | cons p r ih =>
        rw [List.lookup_cons] at hl
        by_cases hz : (z == p.1) = true
        · rw [hz] at hl
          simp only [Option.some.injEq] at hl
          have e := eq_of_beq hz
          subst hl
          rw [e]; exact List.Mem.head _
        · simp only [hz] at hl
          exact List.Mem.tail _ (ih hl)
    exact h1 _ this
  | none =>
    simp only
    cases hc : st.contains z with
    | true => rw [if_pos rfl]
    | false => rw [if_neg (by simp)]; exact h2 z hl hc

theorem lookup_none_ne {ps : List (Str × Value)} {z : Str} (h : ps.lookup z = none) : ∀ p ∈ ps, z ≠ p.1 := by
  induction ps with
  | nil => intro p hp; cases hp
  | cons q r ih =>
    rw [List.lookup_cons] at h
    intro p hp
    by_cases hz : (z == q.1) = true
    · rw [hz] at h; cases h
    · simp only [hz] at h
      rcases List.mem_cons.mp hp with rfl | hp
      · exact fun e => hz (by rw [e]; simp)
      · exact ih h p hp
theorem setv_cons_ne {z a : Str} {v : Value} {ps : List (Str × Value)} {st : List Str} {u m₀ : Str → Option Value} (h : ¬ z = a) : setv ((a, v) :: ps) st u m₀ z = setv ps st u m₀ z := by
  unfold setv
  rw [List.lookup_cons, show (z == a) = false from by simpa using h]
theorem setv_nil_ne {z : Str} {st : List Str} {u m₀ : Str → Option Value} (h : st.contains z = false) : setv [] st u m₀ z = m₀ z := by
  unfold setv
  simp only [List.lookup_nil, h]
  rfl

section
variable {prog : Program} {w : World} {A : Around} {E : Value → Shared → Prop} {s : Shared} {env : Env} {h₀ : Heap} {x : Str} {body : List Stmt} {Q : Flow → Shared → Prop} {m₀ : Str → Option Value} {l : Addr} {vs : List Value}

inductive ForEnd {σ : Type} (h₀ : Heap) (L : Addr) (Led : σ → List (Addr × Obj)) (ps : σ → List (Str × Value)) (st : List Str) (m₀ : Str → Option Value) (x : Str) (J : σ → Prop) (rest : List (Addr × Obj)) (s₁ s₂ : Shared) : Prop
  | ik (c' : _) (h' : _) (tk' : _) (m' : _) (news' : _)
    (f0 : s₂ = { s₁ with heap := h', toks := tk' })
    (f1 : Fr h₀ L h' m')
    (f2 : News h₀ L h' news')
    (f3 : (∀ p ∈ Led c' ++ rest, p ∈ news'))
    (f4 : (∀ q ∈ Led c', ∀ p ∈ rest, @Ne Nat p.1 q.1))
    (f5 : (∀ p ∈ ps c', m' p.1 = some p.2))
    (f6 : (∀ z, z ≠ x → (∀ p ∈ ps c', z ≠ p.1) → st.contains z = false → m' z = m₀ z))
    (f7 : J c') : ForEnd h₀ L Led ps st m₀ x J rest s₁ s₂
noncomputable def ForPost {σ : Type} (h₀ : Heap) (L : Addr) (Led : σ → List (Addr × Obj)) (ps : σ → List (Str × Value)) (st : List Str) (m₀ : Str → Option Value) (x : Str) (J : σ → Prop) (rest : List (Addr × Obj)) (s₁ : Shared) (Q : Flow → Shared → Prop) (f : Flow) (s₂ : Shared) : Prop :=
  match f with
  | .ret v => Q (.ret v) s₂
  | .brk => Q .next s₂
  | _ => ForEnd h₀ L Led ps st m₀ x J rest s₁ s₂

theorem iter_walks {σ : Type} {I : Addr} {fp : List Addr} {n : Nat} {P : Nat → Value → Prop} {St : Nat → Heap → Prop} (W : Walks prog w A I fp [I] n P St) (Led : σ → List (Addr × Obj)) (ps : σ → List (Str × Value)) (st : List Str) (J : Nat → σ → Prop) (c₀ : σ) (fix : List (Addr × Obj)) {news : List (Addr × Obj)}
    (hIo : ∃ o, s.heap.get? I = some o) (hLf : env.locals ∉ fp) (hI0 : h₀.get? I = none) (hst : St 0 s.heap) (F : Fr h₀ env.locals s.heap m₀) (N : News h₀ env.locals s.heap news) (hin : ∀ p ∈ Led c₀ ++ fix, p ∈ news)
    (hIn : ∀ p ∈ Led c₀ ++ fix, p.1 ≠ I) (hoff : ∀ q ∈ Led c₀, ∀ p ∈ fix, @Ne Nat p.1 q.1) (hfp : ∀ i c, J i c → ∀ p ∈ Led c, p.1 ≠ I → p.1 ∉ fp)
    (hps : ∀ p ∈ ps c₀, m₀ p.1 = some p.2) (hj : J 0 c₀)
    (hIlive : ∀ i h, St i h → ∃ o, h.get? I = some o)
    (turn : ∀ i v c u h tk own, P i v → i < n → J i c → Fr h₀ env.locals h (fun y => if y = x then some v else setv (ps c) (x :: st) u m₀ y) → News h₀ env.locals h (Led c ++ (fix ++ own)) → (∀ q ∈ Led c, ∀ p ∈ fix ++ own, @Ne Nat p.1 q.1) →
      wpAny (model prog w) A (execs body env) (ForPost h₀ env.locals Led ps st m₀ x (J (i + 1)) (fix ++ own) { s with heap := h, toks := tk } Q) E { s with heap := h, toks := tk })
    (done : ∀ c u h tk, J n c → Fr h₀ env.locals h (setv (ps c) (x :: st) u m₀) → News h₀ env.locals h (Led c ++ fix) → (∀ q ∈ Led c, ∀ p ∈ fix, @Ne Nat p.1 q.1) → Q .next { s with heap := h, toks := tk }) :
    LoopAtV prog w A h₀ env x body Q E (.ref I) s := by
  have hmf : ∀ m₁ : Str → Option Value, ∀ c, (∀ p ∈ ps c, m₁ p.1 = some p.2) → (∀ z, z ≠ x → (ps c).lookup z = none → st.contains z = false → m₁ z = m₀ z) → m₁ = setv (ps c) (x :: st) m₁ m₀ := fun m₁ c a b => by
    refine setv_of a fun z hz hc => ?_
    rw [List.contains_cons, Bool.or_eq_false_iff] at hc
    exact b z (fun e => by rw [e] at hc; simp at hc) hz hc.2
  refine ⟨I, fp, [I], n, P, St, m₀, Led c₀ ++ fix, fun i m₁ news₁ => ∃ c, news₁ = Led c ++ fix ∧ (∀ q ∈ Led c, ∀ p ∈ fix, @Ne Nat p.1 q.1) ∧ (∀ p ∈ ps c, m₁ p.1 = some p.2) ∧ (∀ z, z ≠ x → (ps c).lookup z = none → st.contains z = false → m₁ z = m₀ z) ∧ J i c,
    rfl, W, hLf, ?_, ?_, hst, F, fun p hp => N p (hin p hp), ⟨c₀, rfl, hoff, hps, fun _ _ _ _ => rfl, hj⟩, ?_, ?_⟩
  · intro b hb; rw [List.mem_singleton.mp hb]; exact hI0
  · intro p hp hq; exact hIn p hp (List.mem_singleton.mp hq)
  · rintro i v m₁ news₁ s₁ own ⟨h, tk, rfl⟩ hi hP ⟨c, rfl, hof, hp1, hp2, hJ⟩ hwr hown hown2 hall hSt F₁ N₁
    obtain ⟨oI, hoI⟩ := hIlive _ _ hSt
    have hII : (I, oI) ∈ own := hall I (W.sub I (List.mem_singleton.mpr rfl)) hI0 oI hoI
    have hsep : ∀ q ∈ Led c, ∀ p ∈ fix ++ own, @Ne Nat p.1 q.1 := by
      intro q hq p hp
      rcases List.mem_append.mp hp with hp | hp
      · exact hof q hq p hp
      · intro e
        have hqI : q.1 ≠ I := fun e' => hwr q (List.mem_append_left _ hq) (by rw [e']; exact List.mem_singleton.mpr rfl)
        exact hfp i c hJ q hq hqI (e ▸ hown p hp)
    have F₂ : Fr h₀ env.locals h (fun y => if y = x then some v else setv (ps c) (x :: st) m₁ m₀ y) := by rw [← hmf m₁ c hp1 hp2]; exact F₁
    have N₂ : News h₀ env.locals h (Led c ++ (fix ++ own)) := fun p hp => N₁ p (by
      rcases List.mem_append.mp hp with hp | hp
      · exact List.mem_append_right _ (List.mem_append_left _ hp)
      · rcases List.mem_append.mp hp with hp | hp
        · exact List.mem_append_right _ (List.mem_append_right _ hp)
        · exact List.mem_append_left _ hp)
    refine wpAny_mono (turn i v c m₁ h tk own hP hi hJ F₂ N₂ hsep) (fun f s₂ p => ?_) fun _ _ e => e
    have fin : ForEnd h₀ env.locals Led ps st m₀ x (J (i + 1)) (fix ++ own) { s with heap := h, toks := tk } s₂ → LoopStepU h₀ env.locals [I] own (fun m₁ news₁ => ∃ c, news₁ = Led c ++ fix ∧ (∀ q ∈ Led c, ∀ p ∈ fix, @Ne Nat p.1 q.1) ∧ (∀ p ∈ ps c, m₁ p.1 = some p.2) ∧ (∀ z, z ≠ x → (ps c).lookup z = none → st.contains z = false → m₁ z = m₀ z) ∧ J (i + 1) c) { s with heap := h, toks := tk } .next s₂ := by
      rintro ⟨c', h', tk', m', news', e, F', N', hm, hs, hp1', hp2', hJ'⟩
      refine ⟨rfl, h', tk', m', Led c' ++ fix, e, F', fun p hp => N' p (hm p ?_), fun p hp hq => ?_, c', rfl, fun q hq p hp => hs q hq p (List.mem_append_left _ hp), hp1', fun z a b c => hp2' z a (lookup_none_ne b) c, hJ'⟩
      · rcases List.mem_append.mp hp with hp | hp
        · exact List.mem_append_right _ (List.mem_append_right _ hp)
        · rcases List.mem_append.mp hp with hp | hp
          · exact List.mem_append_left _ hp
          · exact List.mem_append_right _ (List.mem_append_left _ hp)
      · rcases List.mem_append.mp hp with hp | hp
        · exact hs p hp (I, oI) (List.mem_append_right _ hII) (List.mem_singleton.mp hq).symm
        · exact hwr p (List.mem_append_right _ hp) hq
    cases f with
    | ret v => exact .ret p
    | brk => exact .brk p
    | next => exact .next (fin p)
    | cont => exact .cont (fin p)
  · rintro h' tk' m' news' F' N' _ ⟨c, rfl, hof, hp1, hp2, hJ⟩
    refine done c m' h' tk' hJ ?_ N' hof
    rw [← hmf m' c hp1 hp2]; exact F'

theorem iter_listJ {L : Addr} (hL : env.locals = L) {σ : Type} (Led : σ → List (Addr × Obj)) (ps : σ → List (Str × Value)) (st : List Str) (J : Nat → σ → Prop) (c₀ : σ) (fix : List (Addr × Obj)) {news : List (Addr × Obj)}
    (hh : A.handled = none) (hl : s.heap.IsList l vs.toArray) (hlL : l ≠ L) (F : Fr h₀ L s.heap m₀) (N : News h₀ L s.heap news) (hin : ∀ p ∈ Led c₀ ++ fix, p ∈ news)
    (hoff : ∀ q ∈ Led c₀, ∀ p ∈ fix, @Ne Nat p.1 q.1) (hll : ∀ k c, J k c → ∀ p ∈ Led c, @Ne Nat p.1 l)
    (hps : ∀ p ∈ ps c₀, m₀ p.1 = some p.2) (hj : J 0 c₀)
    (turn : ∀ i v c u h tk own, vs[i]? = some v → i < vs.length → J i c → Fr h₀ L h (fun y => if y = x then some v else setv (ps c) (x :: st) u m₀ y) → News h₀ L h (Led c ++ (fix ++ own)) → (∀ q ∈ Led c, ∀ p ∈ fix ++ own, @Ne Nat p.1 q.1) →
      wpAny (model prog w) A (execs body env) (ForPost h₀ L Led ps st m₀ x (J (i + 1)) (fix ++ own) { s with heap := h, toks := tk } Q) E { s with heap := h, toks := tk })
    (done : ∀ c u h tk, J vs.length c → Fr h₀ L h (setv (ps c) (x :: st) u m₀) → News h₀ L h (Led c ++ fix) → (∀ q ∈ Led c, ∀ p ∈ fix, @Ne Nat p.1 q.1) → Q .next { s with heap := h, toks := tk }) :
    wpAny (model prog w) A (pyIter (.ref l)) (fun it s₂ => LoopAtV prog w A h₀ env x body Q E it s₂) E s := by
  subst hL
  obtain ⟨ol, hol, _⟩ := id hl
  have hlt : l < s.heap.objs.size := Heap.lt_size hol
  have hne : l ≠ s.heap.objs.size := Nat.ne_of_lt hlt
  refine wpAny_pyIter_list hl ?_
  have W := Walks.list (prog := prog) (w := w) hh s.heap.objs.size l hne vs.toArray
  have hsz : vs.toArray.size = vs.length := by simp
  rw [hsz] at W
  have up : ∀ b o, s.heap.get? b = some o → (s.heap.push { cls := .type "list_iterator", data := .fields #[.ref l, .int 0 0] }).get? b = some o := fun b o e => Heap.get?_push_of_some _ e
  refine iter_walks W Led ps st J c₀ fix ⟨_, Heap.get?_push_size _ rfl⟩ ?_ (next_is_new F) ⟨⟨_, Heap.get?_push_size _ rfl, rfl, rfl⟩, hl.at fun o e => up _ o e⟩ (F.push _) (fun p hp => ⟨up _ _ (N p hp).1, (N p hp).2⟩) hin
    (fun p hp => Nat.ne_of_lt (Heap.lt_size (N p (hin p hp)).1)) hoff (fun k c hJc p hp hI hm => ?_) hps hj (fun i h hSt => ?_) (fun i v c u h tk own hP hi => turn i v c u h tk own (by simpa using hP) hi) done
  · intro hm
    rcases List.mem_cons.mp hm with e | hm
    · exact absurd F.ns.lt (e ▸ Nat.lt_irrefl _)
    · exact hlL (List.mem_singleton.mp hm).symm
  · rcases List.mem_cons.mp hm with e | hm
    · exact hI e
    · exact hll k c hJc p hp (List.mem_singleton.mp hm)
  · obtain ⟨⟨o, e, _⟩, _⟩ := hSt; exact ⟨o, e⟩

theorem iter_list {L : Addr} (hL : env.locals = L) {σ : Type} (Led : σ → List (Addr × Obj)) (ps : σ → List (Str × Value)) (st : List Str) (J : Nat → σ → Prop) (c₀ : σ) (fix : List (Addr × Obj)) {news : List (Addr × Obj)}
    (hh : A.handled = none) (hl : s.heap.IsList l vs.toArray) (hlL : l ≠ L) (F : Fr h₀ L s.heap m₀) (N : News h₀ L s.heap news) (hin : ∀ p ∈ Led c₀ ++ fix, p ∈ news)
    (hoff : ∀ q ∈ Led c₀, ∀ p ∈ fix, @Ne Nat p.1 q.1) (hll : ∀ c, ∀ p ∈ Led c, @Ne Nat p.1 l)
    (hps : ∀ p ∈ ps c₀, m₀ p.1 = some p.2) (hj : J 0 c₀)
    (turn : ∀ i v c u h tk own, vs[i]? = some v → i < vs.length → J i c → Fr h₀ L h (fun y => if y = x then some v else setv (ps c) (x :: st) u m₀ y) → News h₀ L h (Led c ++ (fix ++ own)) → (∀ q ∈ Led c, ∀ p ∈ fix ++ own, @Ne Nat p.1 q.1) →
      wpAny (model prog w) A (execs body env) (ForPost h₀ L Led ps st m₀ x (J (i + 1)) (fix ++ own) { s with heap := h, toks := tk } Q) E { s with heap := h, toks := tk })
    (done : ∀ c u h tk, J vs.length c → Fr h₀ L h (setv (ps c) (x :: st) u m₀) → News h₀ L h (Led c ++ fix) → (∀ q ∈ Led c, ∀ p ∈ fix, @Ne Nat p.1 q.1) → Q .next { s with heap := h, toks := tk }) :
    wpAny (model prog w) A (pyIter (.ref l)) (fun it s₂ => LoopAtV prog w A h₀ env x body Q E it s₂) E s :=
  iter_listJ hL Led ps st J c₀ fix hh hl hlL F N hin hoff (fun _ c _ => hll c) hps hj turn done

inductive WhileEnd {σ : Type} (h₀ : Heap) (L : Addr) (Led : σ → List (Addr × Obj)) (ps : σ → List (Str × Value)) (st : List Str) (m₀ : Str → Option Value) (J : σ → Prop) (μ : σ → Nat) (k : Nat) (rest : List (Addr × Obj)) (s₁ : Shared) (f : Flow) (s₂ : Shared) : Prop
  | ik (f0 : f = .next) (c' : _) (h' : _) (tk' : _) (m' : _) (news' : _)
    (f1 : s₂ = { s₁ with heap := h', toks := tk' })
    (f2 : Fr h₀ L h' m')
    (f3 : News h₀ L h' news')
    (f4 : (∀ p ∈ Led c' ++ rest, p ∈ news'))
    (f5 : (∀ q ∈ Led c', ∀ p ∈ rest, @Ne Nat p.1 q.1))
    (f6 : (∀ p ∈ ps c', m' p.1 = some p.2))
    (f7 : (∀ z, (∀ p ∈ ps c', z ≠ p.1) → st.contains z = false → m' z = m₀ z))
    (f8 : μ c' < k)
    (f9 : J c') : WhileEnd h₀ L Led ps st m₀ J μ k rest s₁ f s₂

theorem WhileEnd.intro {σ : Type} {h₀ : Heap} {L : Addr} {Led : σ → List (Addr × Obj)} {ps : σ → List (Str × Value)} {st : List Str} {m₀ : Str → Option Value} {J : σ → Prop} {μ : σ → Nat} {k : Nat} {rest : List (Addr × Obj)} {s₁ : Shared}
    {h' : Heap} {tk' : Nat} {m' : Str → Option Value} {news' : List (Addr × Obj)} (c' : σ) (F : Fr h₀ L h' m') (N : News h₀ L h' news') (mem : ∀ p ∈ Led c' ++ rest, p ∈ news') (hJ : J c') (hμ : μ c' < k) (sep : ∀ q ∈ Led c', ∀ p ∈ rest, @Ne Nat p.1 q.1)
    (hps : ∀ p ∈ ps c', m' p.1 = some p.2) (hm : ∀ z, (∀ p ∈ ps c', z ≠ p.1) → st.contains z = false → m' z = m₀ z) : WhileEnd h₀ L Led ps st m₀ J μ k rest s₁ .next { s₁ with heap := h', toks := tk' } :=
  ⟨rfl, c', h', tk', m', news', rfl, F, N, mem, sep, hps, hm, hμ, hJ⟩
theorem ForEnd.intro {σ : Type} {h₀ : Heap} {L : Addr} {Led : σ → List (Addr × Obj)} {ps : σ → List (Str × Value)} {st : List Str} {m₀ : Str → Option Value} {x : Str} {J : σ → Prop} {rest : List (Addr × Obj)} {s₁ : Shared}
    {h' : Heap} {tk' : Nat} {m' : Str → Option Value} {news' : List (Addr × Obj)} (c' : σ) (F : Fr h₀ L h' m') (N : News h₀ L h' news') (mem : ∀ p ∈ Led c' ++ rest, p ∈ news') (hJ : J c') (sep : ∀ q ∈ Led c', ∀ p ∈ rest, @Ne Nat p.1 q.1)
    (hps : ∀ p ∈ ps c', m' p.1 = some p.2) (hm : ∀ z, z ≠ x → (∀ p ∈ ps c', z ≠ p.1) → st.contains z = false → m' z = m₀ z) : ForEnd h₀ L Led ps st m₀ x J rest s₁ { s₁ with heap := h', toks := tk' } :=
  ⟨c', h', tk', m', news', rfl, F, N, mem, sep, hps, hm, hJ⟩
theorem while_rule {L : Addr} (hL : env.locals = L) {σ : Type} {test : Expr} {pos : Pos} (Led : σ → List (Addr × Obj)) (ps : σ → List (Str × Value)) (st : List Str) (J : σ → Prop) (μ : σ → Nat) (c₀ : σ) (fix : List (Addr × Obj)) {news : List (Addr × Obj)}
    (F : Fr h₀ L s.heap m₀) (N : News h₀ L s.heap news) (hin : ∀ p ∈ Led c₀ ++ fix, p ∈ news) (hoff : ∀ q ∈ Led c₀, ∀ p ∈ fix, @Ne Nat p.1 q.1)
    (hps : ∀ p ∈ ps c₀, m₀ p.1 = some p.2) (hj : J c₀)
    (turn : ∀ c u h tk, J c → Fr h₀ L h (setv (ps c) st u m₀) → News h₀ L h (Led c ++ fix) → (∀ q ∈ Led c, ∀ p ∈ fix, @Ne Nat p.1 q.1) →
      wpAny (model prog w) A (isTrue test env (eval test env)) (fun b s₂ => if b = true then wpAny (model prog w) A (execs body env) (WhileEnd h₀ L Led ps st m₀ J μ (μ c) fix s) (fun _ _ => False) s₂ else Q .next s₂) (fun _ _ => False) { s with heap := h, toks := tk }) :
    wpAny (model prog w) A (exec (.While test body [] pos) env) Q (fun _ _ => False) s := by
  subst hL
  have hmf : ∀ m₁ : Str → Option Value, ∀ c, (∀ p ∈ ps c, m₁ p.1 = some p.2) → (∀ z, (ps c).lookup z = none → st.contains z = false → m₁ z = m₀ z) → m₁ = setv (ps c) st m₁ m₀ := fun m₁ c a b => setv_of a b
  refine While_inv (h₀ := h₀) (L := env.locals) (m := m₀) (news := Led c₀ ++ fix) (fun k m₁ news₁ => ∃ c, k = μ c ∧ news₁ = Led c ++ fix ∧ (∀ q ∈ Led c, ∀ p ∈ fix, @Ne Nat p.1 q.1) ∧ (∀ p ∈ ps c, m₁ p.1 = some p.2) ∧ (∀ z, (ps c).lookup z = none → st.contains z = false → m₁ z = m₀ z) ∧ J c) (n₀ := μ c₀)
    F (fun p hp => N p (hin p hp)) ⟨c₀, rfl, rfl, hoff, hps, fun _ _ _ => rfl, hj⟩ ?_ PassesOwn.never
  rintro k m₁ news₁ h₁ tk₁ F₁ N₁ ⟨c, rfl, rfl, hof, hp1, hp2, hJ⟩
  have F₂ : Fr h₀ env.locals h₁ (setv (ps c) st m₁ m₀) := by rw [← hmf m₁ c hp1 hp2]; exact F₁
  refine wpAny_mono (turn c m₁ h₁ tk₁ hJ F₂ N₁ hof) (fun b s₂ hb => ?_) fun _ _ e => e
  cases b with
  | false => simpa using hb
  | true =>
    simp only [if_true] at hb ⊢
    refine wpAny_mono hb (fun f s₃ h₃ => ?_) fun _ _ e => e
    obtain ⟨rfl, c', h', tk', m', news', e, F', N', hm, hs, hp1', hp2', hlt, hJ'⟩ := h₃
    exact ⟨rfl, h', tk', m', Led c' ++ fix, μ c', e, F', fun p hp => N' p (hm p hp), hlt, c', rfl, rfl, hs, hp1', fun z b c => hp2' z (lookup_none_ne b) c, hJ'⟩
end
end Mine
namespace Mine

theorem all_nil {α : Type} {p : α → Prop} : (∀ x, x ∈ ([] : List α) → p x) ↔ True := ⟨fun _ => trivial, fun _ _ h => nomatch h⟩
theorem all_cons {α : Type} {p : α → Prop} {a : α} {l : List α} : (∀ x, x ∈ a :: l → p x) ↔ p a ∧ ∀ x, x ∈ l → p x := List.forall_mem_cons
theorem all_app {α : Type} {p : α → Prop} {k l : List α} : (∀ x, x ∈ k ++ l → p x) ↔ (∀ x, x ∈ k → p x) ∧ ∀ x, x ∈ l → p x := List.forall_mem_append
theorem fc {α : Type} {p : α → Prop} {a : α} {l : List α} (h : p a) (h' : ∀ x ∈ l, p x) : ∀ x ∈ a :: l, p x := List.forall_mem_cons.mpr ⟨h, h'⟩
theorem fn {α : Type} {p : α → Prop} : ∀ x ∈ ([] : List α), p x := fun _ h => nomatch h
theorem sub_t {α : Type} {a : α} {l m : List α} (h : ∀ x ∈ l, x ∈ m) : ∀ x ∈ l, x ∈ a :: m := fun x hx => List.mem_cons_of_mem _ (h x hx)
theorem sub_al {α : Type} {l m : List α} : ∀ x ∈ l, x ∈ l ++ m := fun _ h => List.mem_append_left _ h
theorem sub_a2 {α : Type} {l k m : List α} : ∀ x ∈ l, x ∈ l ++ k ++ m := fun _ h => List.mem_append_left _ (List.mem_append_left _ h)
theorem sub_a3 {α : Type} {l k m : List α} : ∀ x ∈ k, x ∈ l ++ k ++ m := fun _ h => List.mem_append_left _ (List.mem_append_right _ h)
theorem sub_ar {α : Type} {l k m : List α} (h : ∀ x ∈ l, x ∈ m) : ∀ x ∈ l, x ∈ k ++ m := fun x hx => List.mem_append_right _ (h x hx)
theorem sub_as {α : Type} {l k m : List α} : ∀ x ∈ l ++ k ++ m, x ∈ l ++ (k ++ m) := fun _ h => List.append_assoc .. ▸ h
theorem sub_app {α : Type} {l k m : List α} (h : ∀ x ∈ l, x ∈ m) (h' : ∀ x ∈ k, x ∈ m) : ∀ x ∈ l ++ k, x ∈ m := List.forall_mem_append.mpr ⟨h, h'⟩
theorem mem_ix {α : Type} {l : List α} {a : α} (i : Nat) (h : l[i]? = some a) : a ∈ l := List.mem_of_getElem? h
theorem mar {α : Type} {a : α} {l m : List α} (h : a ∈ m) : a ∈ l ++ m := List.mem_append_right _ h
theorem sub_r {α : Type} {l : List α} : ∀ x ∈ l, x ∈ l := fun _ h => h
theorem mhd {α : Type} {a : α} {l : List α} : a ∈ a :: l := List.mem_cons_self
theorem mtl {α : Type} {a b : α} {l : List α} (h : a ∈ l) : a ∈ b :: l := List.mem_cons_of_mem _ h
theorem room_d {d a b r : Nat} (h : d + a < r) (hb : Nat.ble b a = true) : d + b < r := Nat.lt_of_le_of_lt (Nat.add_le_add_left (Nat.le_of_ble_eq_true hb) _) h
theorem room_u {u a b r : Nat} (h : u + a + 200 < r) (hb : Nat.ble b a = true) : u + b + 200 < r := Nat.lt_of_le_of_lt (Nat.add_le_add_right (Nat.add_le_add_left (Nat.le_of_ble_eq_true hb) _) _) h
theorem lt_lit {x a b : Nat} (h : x < a) (hb : Nat.ble a b = true) : x < b := Nat.lt_of_lt_of_le h (Nat.le_of_ble_eq_true hb)
theorem le_lit {x a b : Nat} (h : x < a) (hb : Nat.ble a b = true) : x ≤ b := Nat.le_of_lt (lt_lit h hb)
theorem sub_step {n i c k : Nat} (h : n - i ≤ k + 1) (hi : i < n) (hc : i < c) : n - c ≤ k := by omega
theorem lt_eq {x s n : Nat} (h : s < n) (e : x = s) : x < n := e ▸ h
theorem lt_add {x a b c : Nat} (h : x < a) (hb : Nat.ble (a + c) b = true) : x + c < b := Nat.lt_of_lt_of_le (Nat.add_lt_add_right h c) (Nat.le_of_ble_eq_true hb)
theorem upd_skip {z a : Str} {v t g : Option Value} [Decidable (z = a)] (h : z ≠ a) (e : t = g) : (if z = a then v else t) = g := by rw [if_neg h]; exact e
theorem setv_skip {z : Str} {ps : List (Str × Value)} {st : List Str} {u m₀ : Str → Option Value} (h : ∀ p ∈ ps, z ≠ p.1) (hs : st.contains z = false) : setv ps st u m₀ z = m₀ z := by
  induction ps with
  | nil => exact setv_nil_ne hs
  | cons p r ih => rw [show p = (p.1, p.2) from rfl, setv_cons_ne (h p (.head _))]; exact ih fun q hq => h q (.tail _ hq)
theorem cont_cons {z x : Str} {st : List Str} (h : z ≠ x) (hs : st.contains z = false) : (x :: st).contains z = false := by
  rw [List.contains_cons, hs, Bool.or_false]; exact beq_eq_false_iff_ne.mpr h
theorem zne_st {z a : Str} {st : List Str} (hs : st.contains z = false) (ha : st.contains a = true) : z ≠ a := fun e => by rw [e, ha] at hs; cases hs
theorem zne_ps {z a : Str} {v : Value} {ps : List (Str × Value)} (h : ∀ p ∈ ps, z ≠ p.1) (m : (a, v) ∈ ps) : z ≠ a := h _ m
theorem ia {a b : Prop} (h : a ∧ b) : a := h.1
theorem ib {a b : Prop} (h : a ∧ b) : b := h.2
theorem i2 {a b c : Prop} (h : a ∧ b ∧ c) : b := h.2.1
theorem j2 {a b c : Prop} (h : a ∧ b ∧ c) : c := h.2.2
theorem i3 {a b c d : Prop} (h : a ∧ b ∧ c ∧ d) : c := h.2.2.1
theorem j3 {a b c d : Prop} (h : a ∧ b ∧ c ∧ d) : d := h.2.2.2
theorem i4 {a b c d e : Prop} (h : a ∧ b ∧ c ∧ d ∧ e) : d := h.2.2.2.1
theorem j4 {a b c d e : Prop} (h : a ∧ b ∧ c ∧ d ∧ e) : e := h.2.2.2.2
theorem i5 {a b c d e f : Prop} (h : a ∧ b ∧ c ∧ d ∧ e ∧ f) : e := h.2.2.2.2.1
theorem j5 {a b c d e f : Prop} (h : a ∧ b ∧ c ∧ d ∧ e ∧ f) : f := h.2.2.2.2.2
theorem i6 {a b c d e f g : Prop} (h : a ∧ b ∧ c ∧ d ∧ e ∧ f ∧ g) : f := h.2.2.2.2.2.1
theorem j6 {a b c d e f g : Prop} (h : a ∧ b ∧ c ∧ d ∧ e ∧ f ∧ g) : g := h.2.2.2.2.2.2
noncomputable def Stop (P : Prop) : Prop := P
theorem stop_ {P : Prop} (h : Stop P) : P := h
theorem go_ {P : Prop} (h : P) : Stop P := h
inductive ListRes (h h' : Heap) (v : Value) (ns : List Nat) : Prop
  | ik (l : _) (vs : _) (c : _)
    (f0 : v = .ref l)
    (f1 : h'.get? l = some (listOf (List.toArray vs) c))
    (f2 : NV vs ns)
    (f3 : h.get? l = none)
    (f4 : ns.length < 4096) : ListRes h h' v ns

theorem news_in {g h : Heap} {L l : Addr} {m : Str → Option Value} {o : Obj} {h1 : Heap} {news : List (Addr × Obj)} (F : Fr g L h m) (N : News g L h1 news) (st : h.StaysIn h1) (e : h1.get? l = some o) (hn : h.get? l = none) : News g L h1 ((l, o) :: news) := by
  intro p hp
  rcases List.mem_cons.mp hp with rfl | hp
  · refine ⟨e, fun q => ?_, ?_⟩
    · obtain ⟨oL, _, _, hL, _⟩ := F.ns
      have q' : l = L := q
      rw [q', hL] at hn; cases hn
    · cases q : g.get? l with
      | none => rfl
      | some o' => rw [F.keep _ _ q] at hn; cases hn
  · exact N p hp

section
variable {prog : Program} {w : World} {K : Frag} {A₀ : Around} {base g : Heap} {outer : List Env} {p : Program} {loose : List Str} {mean : ExcName → Option Value} {mg mb : Str → Option Value} {d u : Nat} {gd : Option (List Code)} {L : Addr} {m : Str → Option Value} {env : Env}
  {f : Addr} {vals : List Value} {n k : Nat} {pre : Heap → Prop} {s : Shared} {Q E : Value → Shared → Prop} {news : List (Addr × Obj)} {ns : List Nat}
theorem ro_useL (S : RO prog w K f vals n pre (fun h h' v => ListRes h h' v ns)) (B : Below A₀ base outer g) (X : K.In g) (T : Top p loose mean mg mb g) (F : Fr g L s.heap m) (N : News g L s.heap news) (hd : d + n < recursionLimit) (hu : u + 8 * n + 200 < cLine)
    (hp : pre s.heap)
    (h : ∀ (h' : Heap) (tk' : Nat) (l : Addr) (vs : List Value) (c : Nat), Fr g L h' m → News g L h' ((l, listOf vs.toArray c) :: news) → (∀ p ∈ news, @Ne Nat p.1 l) → NV vs ns → vs.length < 4096 → s.heap.StaysIn h' → Q (.ref l) { s with heap := h', toks := tk' })
    (hf : env.frame = some L) (hk : env.scope.kind = .function) :
    wpAny (model prog w) (arnd d env outer gd u) (call (.ref f) vals) Q E s :=
  ro_use S B X T F N hd hu hp (fun h' tk' r F' N' st ⟨l, vs, c, e, hl, hv, hn, hz⟩ => by
    subst e
    exact h h' tk' l vs c F' (news_in F N' st hl hn) (fun p hp e => by have q := (N p hp).1; rw [e, hn] at q; cases q) hv (by rw [hv.len]; exact hz) st) hf hk
theorem ro_useV {val : Tok → Value} (S : RO prog w K f vals n pre (fun _ _ v => ∃ tk, v = val tk)) (B : Below A₀ base outer g) (X : K.In g) (T : Top p loose mean mg mb g) (F : Fr g L s.heap m) (N : News g L s.heap news) (hd : d + n < recursionLimit) (hu : u + 8 * n + 200 < cLine)
    (hp : pre s.heap)
    (h : ∀ (h' : Heap) (tk' : Nat), Fr g L h' m → News g L h' news → s.heap.StaysIn h' → ∀ tk2, Q (val tk2) { s with heap := h', toks := tk' })
    (hf : env.frame = some L) (hk : env.scope.kind = .function) :
    wpAny (model prog w) (arnd d env outer gd u) (call (.ref f) vals) Q E s :=
  ro_use S B X T F N hd hu hp (fun h' tk' _ F' N' st ⟨tk2, e⟩ => e ▸ h h' tk' F' N' st tk2) hf hk
theorem ro_useE {c : Value} (S : RO prog w K f vals n pre (fun _ _ v => v = c)) (B : Below A₀ base outer g) (X : K.In g) (T : Top p loose mean mg mb g) (F : Fr g L s.heap m) (N : News g L s.heap news) (hd : d + n < recursionLimit) (hu : u + 8 * n + 200 < cLine)
    (hp : pre s.heap)
    (h : ∀ (h' : Heap) (tk' : Nat), Fr g L h' m → News g L h' news → s.heap.StaysIn h' → Q c { s with heap := h', toks := tk' })
    (hf : env.frame = some L) (hk : env.scope.kind = .function) :
    wpAny (model prog w) (arnd d env outer gd u) (call (.ref f) vals) Q E s :=
  ro_use S B X T F N hd hu hp (fun h' tk' _ F' N' st e => e ▸ h h' tk' F' N' st) hf hk
theorem listRes_of {h h' : Heap} {L l : Addr} {vs : List Value} {c : Nat} {news : List (Addr × Obj)} (N : News h L h' news) (hm : (l, listOf vs.toArray c) ∈ news) (hv : NV vs ns) (hz : ns.length < 4096) : ListRes h h' (.ref l) ns :=
  ⟨l, vs, c, rfl, (N _ hm).1, hv, (N _ hm).2.2, hz⟩
inductive NLst (h : Heap) (l : Addr) (ns : List Nat) : Prop
  | ik (vs : List Value) (a : h.IsList l (List.toArray vs)) (b : NV vs ns) (c : vs.length = ns.length) : NLst h l ns
theorem Nodes.list {h : Heap} {l : Addr} (N : Nodes h l ns) : NLst h l ns := let ⟨vs, c, e, i⟩ := N; ⟨vs, ⟨_, e, rfl, _, rfl⟩, i, NV.len i⟩
end
inductive NList (h : Heap) (l : Addr) (ns : List Nat) : Prop
  | ik (vs : _)
    (f0 : h.IsList l (List.toArray vs))
    (f1 : NV vs ns) : NList h l ns
theorem NList.mk {h : Heap} {l : Addr} {vs : List Value} {ns : List Nat} (hl : h.IsList l vs.toArray) (hv : NV vs ns) : NList h l ns := ⟨vs, hl, hv⟩
theorem base_ne_L {g h : Heap} {L l : Addr} {m : Str → Option Value} {xs : Array Value} (F : Fr g L h m) (hl : g.IsList l xs) : l ≠ L := fun e => by
  obtain ⟨o, ho, _⟩ := hl
  exact Nat.lt_irrefl _ (Nat.lt_of_lt_of_le (Heap.lt_size ho) (e ▸ F.above))
theorem base_ne {g h : Heap} {L l : Addr} {xs : Array Value} {news : List (Addr × Obj)} (N : News g L h news) (hl : g.IsList l xs) : ∀ p ∈ news, @Ne Nat p.1 l := fun p hp e => by
  obtain ⟨o, ho, _⟩ := hl
  have q := (N p hp).2.2
  have e' : p.1 = l := e
  rw [e', ho] at q; cases q
theorem pval_split {o : Option Nat} {v : Value} (h : PVal o v) : (o = none ∧ v = .none) ∨ ∃ q tk, o = some q ∧ v = .int (q : Nat) tk := by
  cases h with
  | none => exact .inl ⟨rfl, rfl⟩
  | some p t => exact .inr ⟨p, t, rfl, rfl⟩
theorem pval_handed {o : Option Nat} {v : Value} (h : PVal o v) : handedIn v = true := by cases h <;> rfl
end Mine
namespace Mine
section
variable {prog : Program} {w : World} {A : Around} {K : Frag} {h₀ : Heap} {L a : Addr} {m : Str → Option Value} {cn : Str} {cs : Scope} {ccd : Value} {cl : List (Str × Addr)} {p : Program} {loose : List Str} {mean : ExcName → Option Value} {mg mb : Str → Option Value} {Q : Value → Shared → Prop} {E : Value → Shared → Prop} {s : Shared} {fn x y z o : Str} {f vx vy vz : Value} {p0 p1 p2 p3 pos apos : Pos}
theorem fcall1 (F : Fr h₀ L s.heap m) (X : K.In h₀) (T : Top p loose mean mg mb h₀) (e : nsIn K mainGlobals fn = some (some f)) (hk : keepIn K f = true) (h1 : m x = some vx) (h : wpAny (model prog w) A (call f [vx]) Q E s)
    (hc : cs.kind = .function) (hf : (envX cn cs L a ccd cl).kindOf fn = some .globalImplicit) (hx : (envX cn cs L a ccd cl).kindOf x = some .local) (hd : (fn == ("__debug__" : Str) || x == ("__debug__" : Str)) = false) :
    wpAny (model prog w) A (eval (.Call (.Name fn p0) [.Name x p1] [] pos) (envX cn cs L a ccd cl)) Q E s := by
  obtain ⟨d1, d2⟩ := Bool.or_eq_false_iff.mp hd
  exact Call_ (nameX_K F X (topRead_of T) e (callWith_K X hk (args_cons (nameX_L F h1 (args_nil ⟨X.keeps F.keep, h⟩) hc hx d2))) hc hf d1)
theorem fcall2 (F : Fr h₀ L s.heap m) (X : K.In h₀) (T : Top p loose mean mg mb h₀) (e : nsIn K mainGlobals fn = some (some f)) (hk : keepIn K f = true) (h1 : m x = some vx) (h2 : m y = some vy) (h : wpAny (model prog w) A (call f [vx, vy]) Q E s)
    (hc : cs.kind = .function) (hf : (envX cn cs L a ccd cl).kindOf fn = some .globalImplicit) (hx : (envX cn cs L a ccd cl).kindOf x = some .local) (hy : (envX cn cs L a ccd cl).kindOf y = some .local) (hd : (fn == ("__debug__" : Str) || (x == ("__debug__" : Str) || y == ("__debug__" : Str))) = false) :
    wpAny (model prog w) A (eval (.Call (.Name fn p0) [.Name x p1, .Name y p2] [] pos) (envX cn cs L a ccd cl)) Q E s := by
  obtain ⟨d1, d2⟩ := Bool.or_eq_false_iff.mp hd
  obtain ⟨d2, d3⟩ := Bool.or_eq_false_iff.mp d2
  exact Call_ (nameX_K F X (topRead_of T) e (callWith_K X hk (args_cons (nameX_L F h1 (args_cons (nameX_L F h2 (args_nil ⟨X.keeps F.keep, h⟩) hc hy d3)) hc hx d2))) hc hf d1)
theorem fcall3 (F : Fr h₀ L s.heap m) (X : K.In h₀) (T : Top p loose mean mg mb h₀) (e : nsIn K mainGlobals fn = some (some f)) (hk : keepIn K f = true) (h1 : m x = some vx) (h2 : m y = some vy) (h3 : m z = some vz) (h : wpAny (model prog w) A (call f [vx, vy, vz]) Q E s)
    (hc : cs.kind = .function) (hf : (envX cn cs L a ccd cl).kindOf fn = some .globalImplicit) (hx : (envX cn cs L a ccd cl).kindOf x = some .local) (hy : (envX cn cs L a ccd cl).kindOf y = some .local) (hz : (envX cn cs L a ccd cl).kindOf z = some .local) (hd : (fn == ("__debug__" : Str) || (x == ("__debug__" : Str) || (y == ("__debug__" : Str) || z == ("__debug__" : Str)))) = false) :
    wpAny (model prog w) A (eval (.Call (.Name fn p0) [.Name x p1, .Name y p2, .Name z p3] [] pos) (envX cn cs L a ccd cl)) Q E s := by
  obtain ⟨d1, d2⟩ := Bool.or_eq_false_iff.mp hd
  obtain ⟨d2, d3⟩ := Bool.or_eq_false_iff.mp d2
  obtain ⟨d3, d4⟩ := Bool.or_eq_false_iff.mp d3
  exact Call_ (nameX_K F X (topRead_of T) e (callWith_K X hk (args_cons (nameX_L F h1 (args_cons (nameX_L F h2 (args_cons (nameX_L F h3 (args_nil ⟨X.keeps F.keep, h⟩) hc hz d4)) hc hy d3)) hc hx d2))) hc hf d1)
theorem mcall1 {t C f : Addr} {pl : Sem Bool} {ox : Obj} {es : List DictEntry} {n : Nat} {meth : Str} (F : Fr h₀ L s.heap m) (X : K.In h₀) (ho : m o = some (.ref t)) (I : InstAt s.heap t ox C (some (dictOf es n))) (hg : plainGet K C meth = true)
    (hf : findIn K (.ref C) meth = some (some (.ref f))) (ht : isFn K (.ref f) = true) (hl : getL meth es = some none) (hk : keepIn K (.ref f) = true) (h1 : m x = some vx) (h : wpAny (model prog w) A (call (.ref f) [.ref t, vx]) Q E s)
    (hc : cs.kind = .function) (hx0 : (envX cn cs L a ccd cl).kindOf o = some .local) (hx : (envX cn cs L a ccd cl).kindOf x = some .local) (he : eval (.Call (.Attribute (.Name o p0) meth apos) [.Name x p1] [] pos) (envX cn cs L a ccd cl) = (do
      let ov ← eval (.Name o p0) (envX cn cs L a ccd cl)
      standAt apos.atName
      let (f, first) ← holding [ov] (getMethod ov meth pl)
      callWith pos f first (backTo pos (starEach [.Name x p1] (envX cn cs L a ccd cl))) [])) (hd : (o == ("__debug__" : Str) || x == ("__debug__" : Str)) = false) :
    wpAny (model prog w) A (eval (.Call (.Attribute (.Name o p0) meth apos) [.Name x p1] [] pos) (envX cn cs L a ccd cl)) Q E s := by
  obtain ⟨d1, d2⟩ := Bool.or_eq_false_iff.mp hd
  exact MethodCall_ (nameX_L F ho (method_inst F X I hg hf ht hl (callWith_K X hk (args_cons (nameX_L F h1 (args_nil ⟨X.keeps F.keep, h⟩) hc hx d2)))) hc hx0 d1) he
end
theorem if_cut {M : Model} {A : Around} {st : Stmt} {rest : List Stmt} {env : Env} {Q : Flow → Shared → Prop} {E : Value → Shared → Prop} {s : Shared} (P : Shared → Prop) (h1 : wpAny M A (exec st env) (fun f s' => f = .next ∧ P s') E s) (h2 : ∀ s', P s' → wpAny M A (execs rest env) Q E s') : wpAny M A (execs (st :: rest) env) Q E s :=
  wpAny_execs_cons (wpAny_mono h1 (fun f s' h => by obtain ⟨e, p⟩ := h; subst e; exact h2 s' p) fun _ _ e => e)
theorem fr_ext {g h : Heap} {L : Addr} {m m' : Str → Option Value} (F : Fr g L h m) (e : ∀ y, m y = m' y) : Fr g L h m' := (funext e : m = m') ▸ F
theorem lookup_two {a b : Str} {u v : Value} (y : Str) : List.lookup y [(a, u), (b, v)] = if y = a then some u else if y = b then some v else none := by
  by_cases h1 : y = a
  · subst h1; simp
  · rw [List.lookup_cons, show (y == a) = false from by simpa using h1]
    by_cases h2 : y = b
    · subst h2; simp [h1]
    · rw [List.lookup_cons, show (y == b) = false from by simpa using h2]; simp [h1, h2]
theorem lookup_over {a b : Str} {u u' v : Value} (y : Str) : (if y = a then some u' else List.lookup y [(a, u), (b, v)]) = if y = a then some u' else if y = b then some v else none := by
  rw [lookup_two]; by_cases h : y = a <;> simp [h]
theorem if_cut2 {M : Model} {A : Around} {st st2 : Stmt} {rest : List Stmt} {env : Env} {Q : Flow → Shared → Prop} {E : Value → Shared → Prop} {s : Shared} (P : Shared → Prop) (h1 : wpAny M A (exec st env) (fun f s' => match f with | .next => wpAny M A (exec st2 env) (fun f s' => f = .next ∧ P s') E s' | _ => False) E s) (h2 : ∀ s', P s' → wpAny M A (execs rest env) Q E s') : wpAny M A (execs (st :: st2 :: rest) env) Q E s :=
  wpAny_execs_cons (wpAny_mono h1 (fun f s' h => by cases f <;> first | exact if_cut P h h2 | exact False.elim h) fun _ _ e => e)
end Mine
namespace Mine

noncomputable abbrev sAttr : Str := Str.ofString "attribute"
noncomputable abbrev sNs : Str := Str.ofString "namespace"
noncomputable abbrev sElem : Str := Str.ofString "element"
noncomputable abbrev sRoot : Str := Str.ofString "root"

noncomputable def kids (T : List NRow) (i : Nat) : List Nat := match T[i]? with | some r => r.children | none => []
noncomputable def atts (T : List NRow) (i : Nat) : List Nat := match T[i]? with | some r => r.attrs | none => []
noncomputable def nsps (T : List NRow) (i : Nat) : List Nat := match T[i]? with | some r => r.nss | none => []
noncomputable def par (T : List NRow) (i : Nat) : Option Nat := match T[i]? with | some r => r.parent | none => none
noncomputable def kindOf (T : List NRow) (i : Nat) : Str := match T[i]? with | some r => r.kind | none => Str.ofString ""

structure WF (T : List NRow) : Prop where
  small : T.length < 60
  kid : ∀ i c, c ∈ kids T i → i < c ∧ c < T.length ∧ par T c = some i ∧ kindOf T c ≠ sAttr ∧ kindOf T c ≠ sNs ∧ kindOf T c ≠ sRoot
  att : ∀ i c, c ∈ atts T i → i < c ∧ c < T.length ∧ par T c = some i ∧ kindOf T c = sAttr
  nsp : ∀ i c, c ∈ nsps T i → i < c ∧ c < T.length ∧ par T c = some i ∧ kindOf T c = sNs
  kidN : ∀ i, (kids T i).Nodup
  attN : ∀ i, (atts T i).Nodup
  nspN : ∀ i, (nsps T i).Nodup
  up : ∀ c i, par T c = some i → i < c ∧ (kindOf T i = sElem ∨ kindOf T i = sRoot) ∧ (if kindOf T c = sAttr then c ∈ atts T i else if kindOf T c = sNs then c ∈ nsps T i else c ∈ kids T i)
  root : ∀ c, c < T.length → (par T c = none ↔ kindOf T c = sRoot)
  holds : ∀ i, kindOf T i ≠ sElem → kindOf T i ≠ sRoot → kids T i = []
  holds2 : ∀ i, kindOf T i ≠ sElem → atts T i = [] ∧ nsps T i = []

theorem kids_lt {T : List NRow} (W : WF T) {i c : Nat} (h : c ∈ kids T i) : i < c ∧ c < T.length := ⟨(W.kid i c h).1, (W.kid i c h).2.1⟩
theorem kids_of {T : List NRow} {i : Nat} {r : NRow} (h : T[i]? = some r) : kids T i = r.children := by unfold kids; rw [h]
theorem atts_of {T : List NRow} {i : Nat} {r : NRow} (h : T[i]? = some r) : atts T i = r.attrs := by unfold atts; rw [h]
theorem nsps_of {T : List NRow} {i : Nat} {r : NRow} (h : T[i]? = some r) : nsps T i = r.nss := by unfold nsps; rw [h]
theorem par_of {T : List NRow} {i : Nat} {r : NRow} (h : T[i]? = some r) : par T i = r.parent := by unfold par; rw [h]
theorem kind_of {T : List NRow} {i : Nat} {r : NRow} (h : T[i]? = some r) : kindOf T i = r.kind := by unfold kindOf; rw [h]

noncomputable def descF (T : List NRow) : Nat → Nat → List Nat
  | 0, _ => []
  | f + 1, i => (kids T i).flatMap fun c => c :: descF T f c
noncomputable def desc (T : List NRow) (i : Nat) : List Nat := descF T T.length i

theorem descF_eq {T : List NRow} (W : WF T) : ∀ f g i, T.length - i ≤ f → T.length - i ≤ g → descF T f i = descF T g i := by
  intro f
  induction f with
  | zero =>
    intro g i hf hg
    cases g with
    | zero => rfl
    | succ g =>
      have : kids T i = [] := by unfold kids; rw [List.getElem?_eq_none (by omega)]
      simp [descF, this]
  | succ f ih =>
    intro g i hf hg
    cases g with
    | zero =>
      have : kids T i = [] := by unfold kids; rw [List.getElem?_eq_none (by omega)]
      simp [descF, this]
    | succ g =>
      simp only [descF]
      rw [List.flatMap_def, List.flatMap_def]
      congr 1
      apply List.map_congr_left
      intro c hc
      have := kids_lt W hc
      rw [ih g c (by omega) (by omega)]
theorem nodup_len : ∀ {n : Nat} {l : List Nat} (_ : l.Nodup) (_ : ∀ x ∈ l, x < n), l.length ≤ n := by
  intro n
  induction n with
  | zero =>
    intro l _ hb
    cases l with
    | nil => simp
    | cons a l => exact absurd (hb a (.head _)) (Nat.not_lt_zero _)
  | succ n ih =>
    intro l h hb
    by_cases hn : n ∈ l
    · have h1 := ih (h.erase n) (fun x hx => by
        have h2 := (h.mem_erase_iff).mp hx
        have h3 := hb x h2.2
        have h4 : x ≠ n := h2.1
        omega)
      rw [List.length_erase_of_mem hn] at h1
      omega
    · have h1 := ih h (fun x hx => by
        have h3 := hb x hx
        have h4 : x ≠ n := fun e => hn (e ▸ hx)
        omega)
      omega
theorem kids_len {T : List NRow} (W : WF T) (i : Nat) : (kids T i).length < 60 := Nat.lt_of_le_of_lt (nodup_len (W.kidN i) fun x hx => (W.kid i x hx).2.1) W.small
theorem atts_len {T : List NRow} (W : WF T) (i : Nat) : (atts T i).length < 60 := Nat.lt_of_le_of_lt (nodup_len (W.attN i) fun x hx => (W.att i x hx).2.1) W.small
theorem nsps_len {T : List NRow} (W : WF T) (i : Nat) : (nsps T i).length < 60 := Nat.lt_of_le_of_lt (nodup_len (W.nspN i) fun x hx => (W.nsp i x hx).2.1) W.small
theorem desc_eq {T : List NRow} (W : WF T) (i : Nat) : desc T i = (kids T i).flatMap fun c => c :: desc T c := by
  unfold desc
  rw [descF_eq W T.length (T.length + 1) i (by omega) (by omega)]
  simp only [descF]
theorem desc_mem {T : List NRow} (W : WF T) : ∀ i c, c ∈ desc T i → i < c ∧ c < T.length := by
  have key : ∀ k i, T.length - i ≤ k → ∀ c, c ∈ desc T i → i < c ∧ c < T.length := by
    intro k
    induction k with
    | zero =>
      intro i hk c hc
      rw [desc_eq W] at hc
      have : kids T i = [] := by unfold kids; rw [List.getElem?_eq_none (by omega)]
      rw [this] at hc; simp at hc
    | succ k ih =>
      intro i hk c hc
      rw [desc_eq W] at hc
      obtain ⟨a, ha, hc⟩ := List.mem_flatMap.mp hc
      have := kids_lt W ha
      rcases List.mem_cons.mp hc with rfl | hc
      · exact this
      · have := ih a (by omega) c hc
        omega
  exact fun i => key _ i (Nat.le_refl _)
theorem len_le_flatMap {g : Nat → List Nat} (l : List Nat) : l.length ≤ (l.reverse.flatMap fun y => y :: g y).length := by
  induction l with
  | nil => simp
  | cons a l ih => simp only [List.reverse_cons, List.flatMap_append, List.length_append, List.length_cons, List.flatMap_cons, List.flatMap_nil, List.length_nil]; omega
theorem desc_par {T : List NRow} (W : WF T) : ∀ i x, x ∈ desc T i → ∃ p, par T x = some p ∧ x ∈ kids T p ∧ (p = i ∨ p ∈ desc T i) := by
  have key : ∀ k i, T.length - i ≤ k → ∀ x, x ∈ desc T i → ∃ p, par T x = some p ∧ x ∈ kids T p ∧ (p = i ∨ p ∈ desc T i) := by
    intro k
    induction k with
    | zero =>
      intro i hk x hx
      have := (desc_mem W i x hx); omega
    | succ k ih =>
      intro i hk x hx
      rw [desc_eq W] at hx
      obtain ⟨a, ha, hx⟩ := List.mem_flatMap.mp hx
      have h1 := kids_lt W ha
      rcases List.mem_cons.mp hx with rfl | hx
      · exact ⟨i, (W.kid i x ha).2.2.1, ha, .inl rfl⟩
      · obtain ⟨p, e1, e2, e3⟩ := ih a (by omega) x hx
        refine ⟨p, e1, e2, .inr ?_⟩
        rw [desc_eq W]
        refine List.mem_flatMap.mpr ⟨a, ha, ?_⟩
        rcases e3 with rfl | e3
        · exact List.mem_cons_self
        · exact List.mem_cons_of_mem _ e3
  exact fun i => key _ i (Nat.le_refl _)
theorem desc_disj {T : List NRow} (W : WF T) {i : Nat} : ∀ x c c', c ∈ kids T i → c' ∈ kids T i → x ∈ c :: desc T c → x ∈ c' :: desc T c' → c = c' := by
  intro x
  induction x using Nat.strongRecOn with
  | _ x ih =>
    intro c c' hc hc' h1 h2
    have pc := (W.kid i c hc).2.2.1
    have pc' := (W.kid i c' hc').2.2.1
    have lc := kids_lt W hc
    have lc' := kids_lt W hc'
    rcases List.mem_cons.mp h1 with rfl | h1
    · rcases List.mem_cons.mp h2 with e | h2
      · exact e
      · obtain ⟨p, e1, e2, e3⟩ := desc_par W c' x h2
        rw [pc] at e1
        cases e1
        rcases e3 with rfl | e3
        · omega
        · have := desc_mem W _ _ e3; omega
    · obtain ⟨p, e1, e2, e3⟩ := desc_par W c x h1
      have hp := kids_lt W e2
      rcases List.mem_cons.mp h2 with rfl | h2
      · rw [pc'] at e1
        cases e1
        rcases e3 with rfl | e3
        · omega
        · have := desc_mem W _ _ e3; omega
      · obtain ⟨p', f1, f2, f3⟩ := desc_par W c' x h2
        rw [e1] at f1
        cases f1
        refine ih p hp.1 c c' hc hc' ?_ ?_
        · rcases e3 with rfl | e3
          · exact List.mem_cons_self
          · exact List.mem_cons_of_mem _ e3
        · rcases f3 with rfl | f3
          · exact List.mem_cons_self
          · exact List.mem_cons_of_mem _ f3
theorem nodup_flatMap_of {α β : Type} {f : α → List β} : ∀ {l : List α}, l.Nodup → (∀ a ∈ l, (f a).Nodup) → (∀ a ∈ l, ∀ b ∈ l, ∀ x, x ∈ f a → x ∈ f b → a = b) → (l.flatMap f).Nodup
  | [], _, _, _ => by simp
  | a :: l, h, h1, h2 => by
    rw [List.flatMap_cons, List.nodup_append]
    have hc := List.nodup_cons.mp h
    refine ⟨h1 a (.head _), nodup_flatMap_of hc.2 (fun b hb => h1 b (.tail _ hb)) (fun b hb c hc => h2 b (.tail _ hb) c (.tail _ hc)), ?_⟩
    intro x hx y hy e
    subst e
    obtain ⟨b, hb, hxb⟩ := List.mem_flatMap.mp hy
    have := h2 a (.head _) b (.tail _ hb) x hx hxb
    subst this
    exact hc.1 hb
theorem desc_nodup {T : List NRow} (W : WF T) : ∀ i, (desc T i).Nodup := by
  have key : ∀ k i, T.length - i ≤ k → (desc T i).Nodup := by
    intro k
    induction k with
    | zero =>
      intro i hk
      have : desc T i = [] := List.eq_nil_iff_forall_not_mem.mpr fun x hx => by have := desc_mem W i x hx; omega
      rw [this]; exact List.nodup_nil
    | succ k ih =>
      intro i hk
      rw [desc_eq W]
      refine nodup_flatMap_of (W.kidN i) (fun c hc => ?_) (fun a ha b hb x hx hy => desc_disj W x a b ha hb hx hy)
      have h1 := kids_lt W hc
      refine List.nodup_cons.mpr ⟨fun h => ?_, ih c (by omega)⟩
      have := desc_mem W c c h; omega
  exact fun i => key _ i (Nat.le_refl _)
theorem desc_len {T : List NRow} (W : WF T) (i : Nat) : (desc T i).length < 60 := Nat.lt_of_le_of_lt (nodup_len (desc_nodup W i) fun x hx => (desc_mem W i x hx).2) W.small
end Mine
namespace Mine
noncomputable def beside (T : List NRow) (i : Nat) : Bool := [sAttr, sNs].any fun x => x == kindOf T i
noncomputable def ancF (T : List NRow) : Nat → Nat → List Nat
  | 0, _ => []
  | f + 1, i => match par T i with
    | none => []
    | some p => p :: ancF T f p
noncomputable def anc (T : List NRow) (i : Nat) : List Nat := ancF T (i + 1) i
theorem par_lt {T : List NRow} (W : WF T) {i p : Nat} (h : par T i = some p) : p < i := (W.up i p h).1
theorem lt_of_par {T : List NRow} {i p : Nat} (hp : par T i = some p) : i < T.length := by
  unfold par at hp
  cases e : T[i]? with
  | none => rw [e] at hp; cases hp
  | some r => exact (List.getElem?_eq_some_iff.mp e).1
theorem ancF_eq {T : List NRow} (W : WF T) : ∀ f g i, i < f → i < g → ancF T f i = ancF T g i := by
  intro f
  induction f with
  | zero => intro g i h; omega
  | succ f ih =>
    intro g i hf hg
    cases g with
    | zero => omega
    | succ g =>
      simp only [ancF]
      cases hp : par T i with
      | none => rfl
      | some p =>
        have := par_lt W hp
        simp only
        rw [ih g p (by omega) (by omega)]
theorem anc_none {T : List NRow} {i : Nat} (h : par T i = none) : anc T i = [] := by unfold anc; simp only [ancF, h]
theorem anc_some {T : List NRow} (W : WF T) {i p : Nat} (h : par T i = some p) : anc T i = p :: anc T p := by
  have := par_lt W h
  show ancF T (i + 1) i = p :: ancF T (p + 1) p
  simp only [ancF, h]
  rw [ancF_eq W i (p + 1) p (by omega) (by omega)]
  simp only [ancF]
theorem anc_lt {T : List NRow} (W : WF T) : ∀ i, ∀ x ∈ anc T i, x < i := by
  intro i
  induction i using Nat.strongRecOn with
  | _ i ih =>
    intro x hx
    cases hp : par T i with
    | none => rw [anc_none hp] at hx; cases hx
    | some p =>
      rw [anc_some W hp] at hx
      have := par_lt W hp
      rcases List.mem_cons.mp hx with rfl | hx
      · exact this
      · have := ih p this x hx; omega
theorem anc_len {T : List NRow} (W : WF T) : ∀ i, (anc T i).length ≤ i := by
  intro i
  induction i using Nat.strongRecOn with
  | _ i ih =>
    cases hp : par T i with
    | none => rw [anc_none hp]; exact Nat.zero_le _
    | some p =>
      rw [anc_some W hp]
      have := par_lt W hp
      have := ih p this
      simp only [List.length_cons]; omega

noncomputable def sibA (T : List NRow) (i : Nat) : List Nat := match par T i with
  | none => []
  | some p => if beside T i = true then [] else ((kids T p).take ((kids T p).idxOf i)).reverse
noncomputable def sibB (T : List NRow) (i : Nat) : List Nat := match par T i with
  | none => []
  | some p => if beside T i = true then [] else (kids T p).drop ((kids T p).idxOf i + 1)
theorem beside_iff {T : List NRow} {i : Nat} : beside T i = true ↔ kindOf T i = sAttr ∨ kindOf T i = sNs := by
  unfold beside
  simp only [List.any_cons, List.any_nil, Bool.or_false, Bool.or_eq_true, beq_iff_eq]
  constructor <;> (rintro (h | h) <;> simp [h])
theorem mem_kids {T : List NRow} (W : WF T) {i p : Nat} (hp : par T i = some p) (hb : beside T i = false) : i ∈ kids T p := by
  have h := (W.up i p hp).2.2
  have h1 : ¬ (kindOf T i = sAttr ∨ kindOf T i = sNs) := fun h => by rw [beside_iff.mpr h] at hb; cases hb
  rw [if_neg (fun e => h1 (.inl e)), if_neg (fun e => h1 (.inr e))] at h
  exact h
noncomputable def withDesc (T : List NRow) (ns : List Nat) : List Nat := ns.flatMap fun n => n :: desc T n
theorem flatMap_take_le {α : Type} {g : α → List Nat} (ns : List α) (k : Nat) : ((ns.take k).flatMap g).length ≤ (ns.flatMap g).length := by
  have : ns.flatMap g = (ns.take k).flatMap g ++ (ns.drop k).flatMap g := by rw [← List.flatMap_append, List.take_append_drop]
  rw [this, List.length_append]; omega
theorem flatMap_take_succ {α : Type} {g : α → List Nat} {ns : List α} {k : Nat} {n : α} (h : ns[k]? = some n) : (ns.take (k + 1)).flatMap g = (ns.take k).flatMap g ++ g n := by
  rw [List.take_add_one, h]; simp
theorem sibB_sub {T : List NRow} (W : WF T) {i x : Nat} (h : x ∈ sibB T i) : x < T.length := by
  unfold sibB at h
  cases hp : par T i with
  | none => rw [hp] at h; cases h
  | some q =>
    rw [hp] at h
    simp only at h
    split at h
    · cases h
    · exact (kids_lt W (List.mem_of_mem_drop h)).2
theorem sibA_sub {T : List NRow} (W : WF T) {i x : Nat} (h : x ∈ sibA T i) : x < T.length := by
  unfold sibA at h
  cases hp : par T i with
  | none => rw [hp] at h; cases h
  | some q =>
    rw [hp] at h
    simp only at h
    split at h
    · cases h
    · exact (kids_lt W (List.mem_of_mem_take (List.mem_reverse.mp h))).2
noncomputable def follFrom (T : List NRow) (i : Nat) : List Nat := (i :: anc T i).flatMap fun h => withDesc T (sibB T h)
noncomputable def foll (T : List NRow) (i : Nat) : List Nat := if beside T i = true then (match par T i with | some q => desc T q ++ follFrom T q | none => []) else follFrom T i
theorem beside_par {T : List NRow} (W : WF T) {i : Nat} (hi : i < T.length) (hb : beside T i = true) : ∃ q, par T i = some q := by
  cases hp : par T i with
  | some q => exact ⟨q, rfl⟩
  | none =>
    have h1 := (W.root i hi).mp hp
    rcases beside_iff.mp hb with h2 | h2 <;> (rw [h1] at h2; exact absurd h2 (by decide))
noncomputable def precAt (T : List NRow) (h : Nat) : List Nat := (sibA T h).flatMap fun s => (withDesc T [s]).reverse
noncomputable def precFrom (T : List NRow) (i : Nat) : List Nat := (i :: anc T i).flatMap (precAt T)
noncomputable def prec (T : List NRow) (i : Nat) : List Nat := if beside T i = true then (match par T i with | some q => precFrom T q | none => []) else precFrom T i

noncomputable def aheadF (T : List NRow) : Nat → Nat → List Nat
  | 0, _ => []
  | f + 1, i => match par T i with
    | none => []
    | some p => aheadF T f p ++ p :: withDesc T ((kids T p).take ((kids T p).idxOf i))
noncomputable def ahead (T : List NRow) (i : Nat) : List Nat := aheadF T (i + 1) i
theorem aheadF_eq {T : List NRow} (W : WF T) : ∀ f g i, i < f → i < g → aheadF T f i = aheadF T g i := by
  intro f
  induction f with
  | zero => intro g i h; omega
  | succ f ih =>
    intro g i hf hg
    cases g with
    | zero => omega
    | succ g =>
      simp only [aheadF]
      cases hp : par T i with
      | none => rfl
      | some p =>
        have := par_lt W hp
        simp only
        rw [ih g p (by omega) (by omega)]
theorem ahead_none {T : List NRow} {i : Nat} (h : par T i = none) : ahead T i = [] := by unfold ahead; simp only [aheadF, h]
theorem ahead_some {T : List NRow} (W : WF T) {i p : Nat} (h : par T i = some p) : ahead T i = ahead T p ++ p :: withDesc T ((kids T p).take ((kids T p).idxOf i)) := by
  have := par_lt W h
  show aheadF T (i + 1) i = aheadF T (p + 1) p ++ _
  simp only [aheadF, h]
  rw [aheadF_eq W i (p + 1) p (by omega) (by omega)]
  simp only [aheadF]
noncomputable def topF (T : List NRow) : Nat → Nat → Nat
  | 0, i => i
  | f + 1, i => match par T i with
    | none => i
    | some p => topF T f p
noncomputable def topOf (T : List NRow) (i : Nat) : Nat := topF T (i + 1) i
theorem topF_eq {T : List NRow} (W : WF T) : ∀ f g i, i < f → i < g → topF T f i = topF T g i := by
  intro f
  induction f with
  | zero => intro g i h; omega
  | succ f ih =>
    intro g i hf hg
    cases g with
    | zero => omega
    | succ g =>
      simp only [topF]
      cases hp : par T i with
      | none => rfl
      | some p =>
        have := par_lt W hp
        simp only
        rw [ih g p (by omega) (by omega)]
theorem topOf_none {T : List NRow} {i : Nat} (h : par T i = none) : topOf T i = i := by unfold topOf; simp only [topF, h]
theorem topOf_some {T : List NRow} (W : WF T) {i p : Nat} (h : par T i = some p) : topOf T i = topOf T p := by
  have := par_lt W h
  show topF T (i + 1) i = topF T (p + 1) p
  simp only [topF, h]
  rw [topF_eq W i (p + 1) p (by omega) (by omega)]
  simp only [topF]
theorem take_idx_drop {l : List Nat} {x : Nat} (h : x ∈ l) : l = l.take (l.idxOf x) ++ x :: l.drop (l.idxOf x + 1) := by
  have hlt := List.idxOf_lt_length_of_mem h
  have e : l[l.idxOf x] = x := List.getElem_idxOf hlt
  calc l = l.take (l.idxOf x) ++ l.drop (l.idxOf x) := (List.take_append_drop _ _).symm
    _ = _ := by rw [List.drop_eq_getElem_cons hlt, e]
theorem withDesc_app (T : List NRow) (a b : List Nat) : withDesc T (a ++ b) = withDesc T a ++ withDesc T b := by unfold withDesc; rw [List.flatMap_append]
theorem withDesc_cons (T : List NRow) (a : Nat) (b : List Nat) : withDesc T (a :: b) = a :: desc T a ++ withDesc T b := by unfold withDesc; rw [List.flatMap_cons]
theorem desc_wd {T : List NRow} (W : WF T) (i : Nat) : desc T i = withDesc T (kids T i) := desc_eq W i
theorem sibB_plain {T : List NRow} {i p : Nat} (hp : par T i = some p) (hb : beside T i = false) : sibB T i = (kids T p).drop ((kids T p).idxOf i + 1) := by unfold sibB; rw [hp]; simp [hb]
theorem sibA_plain {T : List NRow} {i p : Nat} (hp : par T i = some p) (hb : beside T i = false) : sibA T i = ((kids T p).take ((kids T p).idxOf i)).reverse := by unfold sibA; rw [hp]; simp [hb]
theorem sibB_top {T : List NRow} {i : Nat} (hp : par T i = none) : sibB T i = [] := by unfold sibB; rw [hp]
theorem sibA_top {T : List NRow} {i : Nat} (hp : par T i = none) : sibA T i = [] := by unfold sibA; rw [hp]
theorem beside_up {T : List NRow} (W : WF T) {i p : Nat} (hp : par T i = some p) : beside T p = false := by
  have h := (W.up i p hp).2.1
  cases hb : beside T p with
  | false => rfl
  | true =>
    rcases beside_iff.mp hb with h1 | h1 <;> rcases h with h2 | h2 <;> (rw [h1] at h2; exact absurd h2 (by decide))
theorem follFrom_none {T : List NRow} {i : Nat} (hp : par T i = none) : follFrom T i = [] := by
  unfold follFrom; rw [anc_none hp, List.flatMap_cons, List.flatMap_nil, sibB_top hp]; rfl
theorem follFrom_some {T : List NRow} (W : WF T) {i p : Nat} (hp : par T i = some p) : follFrom T i = withDesc T (sibB T i) ++ follFrom T p := by
  unfold follFrom; rw [anc_some W hp, List.flatMap_cons]
theorem doc_split {T : List NRow} (W : WF T) : ∀ i, beside T i = false → topOf T i :: desc T (topOf T i) = ahead T i ++ (i :: desc T i) ++ follFrom T i := by
  intro i
  induction i using Nat.strongRecOn with
  | _ i ih =>
    intro hb
    cases hp : par T i with
    | none => rw [topOf_none hp, ahead_none hp, follFrom_none hp]; simp
    | some p =>
      have hlt := par_lt W hp
      have hk := take_idx_drop (mem_kids W hp hb)
      have e : desc T p = withDesc T ((kids T p).take ((kids T p).idxOf i)) ++ ((i :: desc T i) ++ withDesc T (sibB T i)) := by
        rw [sibB_plain hp hb, desc_wd W p]
        conv => lhs; rw [hk]
        rw [withDesc_app, withDesc_cons]
      rw [topOf_some W hp, ih p hlt (beside_up W hp), ahead_some W hp, follFrom_some W hp, e]
      simp only [List.append_assoc, List.cons_append]
theorem topOf_le {T : List NRow} (W : WF T) : ∀ i, topOf T i ≤ i := by
  intro i
  induction i using Nat.strongRecOn with
  | _ i ih =>
    cases hp : par T i with
    | none => rw [topOf_none hp]; exact Nat.le_refl _
    | some p => rw [topOf_some W hp]; have := par_lt W hp; have := ih p this; omega
theorem doc_nodup {T : List NRow} (W : WF T) (i : Nat) : (i :: desc T i).Nodup := List.nodup_cons.mpr ⟨fun h => by have := desc_mem W i i h; omega, desc_nodup W i⟩
theorem precAt_eq (T : List NRow) (i : Nat) : precAt T i = (withDesc T (sibA T i).reverse).reverse := by
  unfold precAt
  have key : ∀ l : List Nat, (l.flatMap fun s => (withDesc T [s]).reverse) = (withDesc T l.reverse).reverse := by
    intro l
    induction l with
    | nil => simp [withDesc]
    | cons a l ih => rw [List.flatMap_cons, ih, List.reverse_cons, withDesc_app, List.reverse_append]
  exact key _
theorem precFrom_none {T : List NRow} {i : Nat} (hp : par T i = none) : precFrom T i = [] := by
  unfold precFrom; rw [anc_none hp, List.flatMap_cons, List.flatMap_nil, precAt_eq, sibA_top hp]; rfl
theorem precFrom_some {T : List NRow} (W : WF T) {i p : Nat} (hp : par T i = some p) (hb : beside T i = false) : precFrom T i = (withDesc T ((kids T p).take ((kids T p).idxOf i))).reverse ++ precFrom T p := by
  unfold precFrom; rw [anc_some W hp, List.flatMap_cons, precAt_eq, sibA_plain hp hb, List.reverse_reverse]
theorem ahead_perm {T : List NRow} (W : WF T) : ∀ i, beside T i = false → (ahead T i).Perm (anc T i ++ precFrom T i) := by
  intro i
  induction i using Nat.strongRecOn with
  | _ i ih =>
    intro hb
    cases hp : par T i with
    | none => rw [ahead_none hp, anc_none hp, precFrom_none hp]; exact List.Perm.refl _
    | some p =>
      have hlt := par_lt W hp
      have h := ih p hlt (beside_up W hp)
      rw [ahead_some W hp, anc_some W hp, precFrom_some W hp hb]
      generalize withDesc T ((kids T p).take ((kids T p).idxOf i)) = X
      -- ahead p ++ p :: X ~ p :: anc p ++ (X.reverse ++ prec p)
      refine List.perm_middle.trans ?_
      rw [List.cons_append]
      refine List.Perm.cons p ?_
      refine (h.append_right X).trans ?_
      rw [List.append_assoc]
      refine List.Perm.append_left _ ?_
      exact List.perm_append_comm.trans ((List.reverse_perm X).symm.append_right _)
theorem follFrom_len' {T : List NRow} (W : WF T) (i : Nat) (hi : i < T.length) (hb : beside T i = false) : (follFrom T i).length < 60 := by
  have h := doc_split W i hb
  have hl : (topOf T i :: desc T (topOf T i)).length ≤ T.length := nodup_len (doc_nodup W _) fun x hx => by
    rcases List.mem_cons.mp hx with rfl | hx
    · have := topOf_le W i; omega
    · exact (desc_mem W _ x hx).2
  rw [h] at hl
  have := W.small
  simp only [List.length_append, List.length_cons] at hl
  omega
theorem precFrom_len' {T : List NRow} (W : WF T) (i : Nat) (hi : i < T.length) (hb : beside T i = false) : (precFrom T i).length < 60 := by
  have h := doc_split W i hb
  have hl : (topOf T i :: desc T (topOf T i)).length ≤ T.length := nodup_len (doc_nodup W _) fun x hx => by
    rcases List.mem_cons.mp hx with rfl | hx
    · have := topOf_le W i; omega
    · exact (desc_mem W _ x hx).2
  rw [h] at hl
  have := W.small
  have hp := (ahead_perm W i hb).length_eq
  simp only [List.length_append, List.length_cons] at hl hp
  omega
theorem follFrom_len {T : List NRow} (W : WF T) (i : Nat) : (follFrom T i).length < 60 := by
  cases hp : par T i with
  | none => rw [follFrom_none hp]; simp
  | some p =>
    have hi := lt_of_par hp
    cases hb : beside T i with
    | false => exact follFrom_len' W i hi hb
    | true =>
      rw [follFrom_some W hp, show sibB T i = [] from by unfold sibB; rw [hp]; simp [hb]]
      exact follFrom_len' W p (by have := par_lt W hp; omega) (beside_up W hp)
theorem precFrom_len {T : List NRow} (W : WF T) (i : Nat) : (precFrom T i).length < 60 := by
  cases hp : par T i with
  | none => rw [precFrom_none hp]; simp
  | some p =>
    have hi := lt_of_par hp
    cases hb : beside T i with
    | false => exact precFrom_len' W i hi hb
    | true =>
      have e : precFrom T i = precFrom T p := by
        unfold precFrom
        rw [anc_some W hp, List.flatMap_cons, precAt_eq, show sibA T i = [] from by unfold sibA; rw [hp]; simp [hb]]
        rfl
      rw [e]
      exact precFrom_len' W p (by have := par_lt W hp; omega) (beside_up W hp)
theorem wdB_len {T : List NRow} (W : WF T) (i : Nat) : (withDesc T (sibB T i)).length < 60 := by
  have h := follFrom_len W i
  unfold follFrom at h
  rw [List.flatMap_cons, List.length_append] at h
  omega
noncomputable def shortNames : List Str := [Str.ofString "child", Str.ofString "self", Str.ofString "parent", Str.ofString "attribute", Str.ofString "following-sibling", Str.ofString "preceding-sibling"]
noncomputable def longNames : List Str := [Str.ofString "descendant", Str.ofString "descendant-or-self", Str.ofString "ancestor", Str.ofString "ancestor-or-self", Str.ofString "following", Str.ofString "preceding"]
noncomputable def axisL (T : List NRow) (i : Nat) (name : Str) : List Nat :=
  if name = Str.ofString "child" then kids T i
  else if name = Str.ofString "self" then [i]
  else if name = Str.ofString "parent" then (match par T i with | none => [] | some q => [q])
  else if name = Str.ofString "attribute" then atts T i
  else if name = Str.ofString "following-sibling" then sibB T i
  else if name = Str.ofString "preceding-sibling" then sibA T i
  else if name = Str.ofString "descendant" then desc T i
  else if name = Str.ofString "descendant-or-self" then i :: desc T i
  else if name = Str.ofString "ancestor" then anc T i
  else if name = Str.ofString "ancestor-or-self" then i :: anc T i
  else if name = Str.ofString "following" then foll T i
  else prec T i
theorem sibA_len {T : List NRow} (W : WF T) (i : Nat) : (sibA T i).length < 60 := by
  unfold sibA
  cases hp : par T i with
  | none => simp
  | some q =>
    simp only
    split
    · simp
    · have := kids_len W q; simp; omega
theorem sibB_len {T : List NRow} (W : WF T) (i : Nat) : (sibB T i).length < 60 := by
  unfold sibB
  cases hp : par T i with
  | none => simp
  | some q =>
    simp only
    split
    · simp
    · have := kids_len W q; simp; omega
theorem axisL_child (T : List NRow) (i : Nat) : axisL T i (Str.ofString "child") = kids T i := by unfold axisL; rw [if_pos rfl]
theorem axisL_self (T : List NRow) (i : Nat) : axisL T i (Str.ofString "self") = [i] := by unfold axisL; rw [if_neg (by decide)]; rw [if_pos rfl]
theorem axisL_attribute (T : List NRow) (i : Nat) : axisL T i (Str.ofString "attribute") = atts T i := by unfold axisL; rw [if_neg (by decide)]; rw [if_neg (by decide)]; rw [if_neg (by decide)]; rw [if_pos rfl]
theorem axisL_following_sibling (T : List NRow) (i : Nat) : axisL T i (Str.ofString "following-sibling") = sibB T i := by unfold axisL; rw [if_neg (by decide)]; rw [if_neg (by decide)]; rw [if_neg (by decide)]; rw [if_neg (by decide)]; rw [if_pos rfl]
theorem axisL_preceding_sibling (T : List NRow) (i : Nat) : axisL T i (Str.ofString "preceding-sibling") = sibA T i := by unfold axisL; rw [if_neg (by decide)]; rw [if_neg (by decide)]; rw [if_neg (by decide)]; rw [if_neg (by decide)]; rw [if_neg (by decide)]; rw [if_pos rfl]
theorem axisL_descendant (T : List NRow) (i : Nat) : axisL T i (Str.ofString "descendant") = desc T i := by unfold axisL; rw [if_neg (by decide)]; rw [if_neg (by decide)]; rw [if_neg (by decide)]; rw [if_neg (by decide)]; rw [if_neg (by decide)]; rw [if_neg (by decide)]; rw [if_pos rfl]
theorem axisL_descendant_or_self (T : List NRow) (i : Nat) : axisL T i (Str.ofString "descendant-or-self") = i :: desc T i := by unfold axisL; rw [if_neg (by decide)]; rw [if_neg (by decide)]; rw [if_neg (by decide)]; rw [if_neg (by decide)]; rw [if_neg (by decide)]; rw [if_neg (by decide)]; rw [if_neg (by decide)]; rw [if_pos rfl]
theorem axisL_ancestor (T : List NRow) (i : Nat) : axisL T i (Str.ofString "ancestor") = anc T i := by unfold axisL; rw [if_neg (by decide)]; rw [if_neg (by decide)]; rw [if_neg (by decide)]; rw [if_neg (by decide)]; rw [if_neg (by decide)]; rw [if_neg (by decide)]; rw [if_neg (by decide)]; rw [if_neg (by decide)]; rw [if_pos rfl]
theorem axisL_ancestor_or_self (T : List NRow) (i : Nat) : axisL T i (Str.ofString "ancestor-or-self") = i :: anc T i := by unfold axisL; rw [if_neg (by decide)]; rw [if_neg (by decide)]; rw [if_neg (by decide)]; rw [if_neg (by decide)]; rw [if_neg (by decide)]; rw [if_neg (by decide)]; rw [if_neg (by decide)]; rw [if_neg (by decide)]; rw [if_neg (by decide)]; rw [if_pos rfl]
theorem axisL_following (T : List NRow) (i : Nat) : axisL T i (Str.ofString "following") = foll T i := by unfold axisL; rw [if_neg (by decide)]; rw [if_neg (by decide)]; rw [if_neg (by decide)]; rw [if_neg (by decide)]; rw [if_neg (by decide)]; rw [if_neg (by decide)]; rw [if_neg (by decide)]; rw [if_neg (by decide)]; rw [if_neg (by decide)]; rw [if_neg (by decide)]; rw [if_pos rfl]
theorem axisL_preceding (T : List NRow) (i : Nat) : axisL T i (Str.ofString "preceding") = prec T i := by unfold axisL; rw [if_neg (by decide)]; rw [if_neg (by decide)]; rw [if_neg (by decide)]; rw [if_neg (by decide)]; rw [if_neg (by decide)]; rw [if_neg (by decide)]; rw [if_neg (by decide)]; rw [if_neg (by decide)]; rw [if_neg (by decide)]; rw [if_neg (by decide)]; rw [if_neg (by decide)]; skip
theorem axisL_parent (T : List NRow) (i : Nat) : axisL T i (Str.ofString "parent") = (match par T i with | none => [] | some q => [q]) := by unfold axisL; rw [if_neg (by decide)]; rw [if_neg (by decide)]; rw [if_pos rfl]
theorem axisL_par_none {T : List NRow} {i : Nat} (h : par T i = none) : axisL T i (Str.ofString "parent") = [] := by rw [axisL_parent, h]
theorem axisL_par_some {T : List NRow} {i q : Nat} (h : par T i = some q) : axisL T i (Str.ofString "parent") = [q] := by rw [axisL_parent, h]
theorem axisL_att_no {T : List NRow} (W : WF T) {i : Nat} (h : (kindOf T i == sElem) = false) : axisL T i (Str.ofString "attribute") = [] := by
  rw [axisL_attribute]; exact (W.holds2 i (by simpa using h)).1
theorem foll_len {T : List NRow} (W : WF T) (i : Nat) : (foll T i).length < 120 := by
  unfold foll
  have := follFrom_len W i
  split
  · cases hp : par T i with
    | none => simp
    | some q => have h1 := follFrom_len W q; have h2 := desc_len W q; simp only [List.length_append]; omega
  · omega
theorem prec_len {T : List NRow} (W : WF T) (i : Nat) : (prec T i).length < 60 := by
  unfold prec
  have := precFrom_len W i
  split
  · cases hp : par T i with
    | none => simp
    | some q => exact precFrom_len W q
  · omega
theorem wd_one (T : List NRow) (i : Nat) : withDesc T [i] = i :: desc T i := by simp [withDesc]
theorem axis_len {T : List NRow} (W : WF T) (hi : i < T.length) (name : Str) : (axisL T i name).length < 120 := by
  have h1 := kids_len W i
  have h2 := atts_len W i
  have h3 := sibA_len W i
  have h4 := sibB_len W i
  have h5 := desc_len W i
  have h6 := anc_len W i
  have h7 := foll_len W i
  have h8 := prec_len W i
  have h9 := W.small
  by_cases e_child : name = Str.ofString "child"
  · rw [e_child, axisL_child]
    first | omega | (simp only [List.length_cons, List.length_nil]; omega)
  by_cases e_self : name = Str.ofString "self"
  · rw [e_self, axisL_self]
    first | omega | (simp only [List.length_cons, List.length_nil]; omega)
  by_cases e_parent : name = Str.ofString "parent"
  · rw [e_parent, axisL_parent]
    cases par T i <;> simp
  by_cases e_attribute : name = Str.ofString "attribute"
  · rw [e_attribute, axisL_attribute]
    first | omega | (simp only [List.length_cons, List.length_nil]; omega)
  by_cases e_following_sibling : name = Str.ofString "following-sibling"
  · rw [e_following_sibling, axisL_following_sibling]
    first | omega | (simp only [List.length_cons, List.length_nil]; omega)
  by_cases e_preceding_sibling : name = Str.ofString "preceding-sibling"
  · rw [e_preceding_sibling, axisL_preceding_sibling]
    first | omega | (simp only [List.length_cons, List.length_nil]; omega)
  by_cases e_descendant : name = Str.ofString "descendant"
  · rw [e_descendant, axisL_descendant]
    first | omega | (simp only [List.length_cons, List.length_nil]; omega)
  by_cases e_descendant_or_self : name = Str.ofString "descendant-or-self"
  · rw [e_descendant_or_self, axisL_descendant_or_self]
    first | omega | (simp only [List.length_cons, List.length_nil]; omega)
  by_cases e_ancestor : name = Str.ofString "ancestor"
  · rw [e_ancestor, axisL_ancestor]
    first | omega | (simp only [List.length_cons, List.length_nil]; omega)
  by_cases e_ancestor_or_self : name = Str.ofString "ancestor-or-self"
  · rw [e_ancestor_or_self, axisL_ancestor_or_self]
    first | omega | (simp only [List.length_cons, List.length_nil]; omega)
  by_cases e_following : name = Str.ofString "following"
  · rw [e_following, axisL_following]
    first | omega | (simp only [List.length_cons, List.length_nil]; omega)
  unfold axisL
  rw [if_neg e_child, if_neg e_self, if_neg e_parent, if_neg e_attribute, if_neg e_following_sibling, if_neg e_preceding_sibling, if_neg e_descendant, if_neg e_descendant_or_self, if_neg e_ancestor, if_neg e_ancestor_or_self, if_neg e_following]
  omega
end Mine
namespace Mine
section
variable {prog : Program} {w : World} {A : Around} {E : Value → Shared → Prop} {s : Shared} {env : Env} {h₀ : Heap} {x : Str} {body : List Stmt} {Q : Flow → Shared → Prop} {m₀ : Str → Option Value} {l : Addr} {vs : List Value} {target : Expr}

theorem iter_turns {σ : Type} {I : Addr} {fp wr : List Addr} {n : Nat} {P Md : Nat → Value → Heap → Prop} {St : Nat → Heap → Prop} (W : KTurns prog w A target I fp wr n P Md St) (Led : σ → List (Addr × Obj)) (ps : σ → List (Str × Value)) (st : List Str) (J : Nat → σ → Prop) (c₀ : σ) (fix : List (Addr × Obj)) {news : List (Addr × Obj)}
    (hLf : env.locals ∉ fp) (hI0 : ∀ b ∈ wr, h₀.get? b = none) (hst : St 0 s.heap) (F : Fr h₀ env.locals s.heap m₀) (N : News h₀ env.locals s.heap news) (hin : ∀ p ∈ Led c₀ ++ fix, p ∈ news)
    (hIn : ∀ p ∈ Led c₀ ++ fix, p.1 ∉ wr) (hoff : ∀ q ∈ Led c₀, ∀ p ∈ fix, @Ne Nat p.1 q.1) (hfp : ∀ i c, J i c → ∀ p ∈ Led c, p.1 ∉ wr → p.1 ∉ fp)
    (hps : ∀ p ∈ ps c₀, m₀ p.1 = some p.2) (hj : J 0 c₀)
    (hIlive : ∀ i h, St i h → ∀ b ∈ wr, ∃ o, h.get? b = some o)
    (turn : ∀ i v c u h tk own, P i v h → i < n → J i c → Fr h₀ env.locals h (setv (ps c) (x :: st) u m₀) → News h₀ env.locals h (Led c ++ (fix ++ own)) → (∀ q ∈ Led c, ∀ p ∈ fix ++ own, @Ne Nat p.1 q.1) → (∀ b ∈ fp, h₀.get? b = none → ∀ o, h.get? b = some o → (b, o) ∈ own) →
      wpAny (model prog w) A (assign target env v) (fun _ s₂ => wpAny (model prog w) A (execs body env) (ForPost h₀ env.locals Led ps st m₀ x (J (i + 1)) (fix ++ own) { s with heap := h, toks := tk } Q) E s₂) E { s with heap := h, toks := tk })
    (done : ∀ c u h tk, J n c → Fr h₀ env.locals h (setv (ps c) (x :: st) u m₀) → News h₀ env.locals h (Led c ++ fix) → (∀ q ∈ Led c, ∀ p ∈ fix, @Ne Nat p.1 q.1) → Q .next { s with heap := h, toks := tk }) :
    TurnsAt prog w A h₀ env target body Q E (.ref I) s := by
  have hmf : ∀ m₁ : Str → Option Value, ∀ c, (∀ p ∈ ps c, m₁ p.1 = some p.2) → (∀ z, z ≠ x → (ps c).lookup z = none → st.contains z = false → m₁ z = m₀ z) → m₁ = setv (ps c) (x :: st) m₁ m₀ := fun m₁ c a b => by
    refine setv_of a fun z hz hc => ?_
    rw [List.contains_cons, Bool.or_eq_false_iff] at hc
    exact b z (fun e => by rw [e] at hc; simp at hc) hz hc.2
  refine ⟨I, fp, wr, n, P, Md, St, m₀, Led c₀ ++ fix, fun i m₁ news₁ => ∃ c, news₁ = Led c ++ fix ∧ (∀ q ∈ Led c, ∀ p ∈ fix, @Ne Nat p.1 q.1) ∧ (∀ p ∈ ps c, m₁ p.1 = some p.2) ∧ (∀ z, z ≠ x → (ps c).lookup z = none → st.contains z = false → m₁ z = m₀ z) ∧ J i c,
    rfl, W, hLf, hI0, hIn, hst, F, fun p hp => N p (hin p hp), ⟨c₀, rfl, hoff, hps, fun _ _ _ _ => rfl, hj⟩, ?_, ?_⟩
  · rintro i v m₁ news₁ h tk own hi hP ⟨c, rfl, hof, hp1, hp2, hJ⟩ hwr hown hown2 hall hSt F₁ N₁
    have hsep : ∀ q ∈ Led c, ∀ p ∈ fix ++ own, @Ne Nat p.1 q.1 := by
      intro q hq p hp
      rcases List.mem_append.mp hp with hp | hp
      · exact hof q hq p hp
      · intro e
        exact hfp i c hJ q hq (hwr q (List.mem_append_left _ hq)) (e ▸ hown p hp)
    have F₂ : Fr h₀ env.locals h (setv (ps c) (x :: st) m₁ m₀) := by rw [← hmf m₁ c hp1 hp2]; exact F₁
    have N₂ : News h₀ env.locals h (Led c ++ (fix ++ own)) := fun p hp => N₁ p (by
      rcases List.mem_append.mp hp with hp | hp
      · exact List.mem_append_right _ (List.mem_append_left _ hp)
      · rcases List.mem_append.mp hp with hp | hp
        · exact List.mem_append_right _ (List.mem_append_right _ hp)
        · exact List.mem_append_left _ hp)
    refine wpAny_mono (turn i v c m₁ h tk own hP hi hJ F₂ N₂ hsep hall) (fun _ s₃ hb => wpAny_mono hb (fun f s₂ p => ?_) fun _ _ e => e) fun _ _ e => e
    have fin : ForEnd h₀ env.locals Led ps st m₀ x (J (i + 1)) (fix ++ own) { s with heap := h, toks := tk } s₂ → LoopStepU h₀ env.locals wr own (fun m₁ news₁ => ∃ c, news₁ = Led c ++ fix ∧ (∀ q ∈ Led c, ∀ p ∈ fix, @Ne Nat p.1 q.1) ∧ (∀ p ∈ ps c, m₁ p.1 = some p.2) ∧ (∀ z, z ≠ x → (ps c).lookup z = none → st.contains z = false → m₁ z = m₀ z) ∧ J (i + 1) c) { s with heap := h, toks := tk } .next s₂ := by
      rintro ⟨c', h', tk', m', news', e, F', N', hm, hs, hp1', hp2', hJ'⟩
      refine ⟨rfl, h', tk', m', Led c' ++ fix, e, F', fun p hp => N' p (hm p ?_), fun p hp hq => ?_, c', rfl, fun q hq p hp => hs q hq p (List.mem_append_left _ hp), hp1', fun z a b c => hp2' z a (lookup_none_ne b) c, hJ'⟩
      · rcases List.mem_append.mp hp with hp | hp
        · exact List.mem_append_right _ (List.mem_append_right _ hp)
        · rcases List.mem_append.mp hp with hp | hp
          · exact List.mem_append_left _ hp
          · exact List.mem_append_right _ (List.mem_append_left _ hp)
      · rcases List.mem_append.mp hp with hp | hp
        · obtain ⟨o, ho⟩ := hIlive _ _ hSt p.1 hq
          exact hs p hp (p.1, o) (List.mem_append_right _ (hall p.1 (W.sub _ hq) (hI0 _ hq) o ho)) rfl
        · exact hwr p (List.mem_append_right _ hp) hq
    cases f with
    | ret v => exact .ret p
    | brk => exact .brk p
    | next => exact .next (fin p)
    | cont => exact .cont (fin p)
  · rintro h' tk' m' news' F' N' _ ⟨c, rfl, hof, hp1, hp2, hJ⟩
    refine done c m' h' tk' hJ ?_ N' hof
    rw [← hmf m' c hp1 hp2]; exact F'

theorem go_listiter {elts : List Expr} {k : Nat} {pos : Pos} {I ax : Addr} {items : Array Value} (i : Nat) (v : Value) (s : Shared) (Q : Unit → Shared → Prop) (E : Value → Shared → Prop) (st : s.heap.IsListIter I ax i ∧ s.heap.IsList ax items) (hQ : Q () s) :
    wpAny (model prog w) A (letOwnedTupleGo (.Tuple elts k pos) (.ref I) v) Q E s := by
  cases v with
  | ref T => exact wpAny_letOwnedTupleGo_listiter st.1 hQ
  | _ => exact wpAny_pure hQ

theorem iter_listT {L : Addr} (hL : env.locals = L) {σ : Type} {elts : List Expr} {k : Nat} {pos : Pos} (Led : σ → List (Addr × Obj)) (ps : σ → List (Str × Value)) (st : List Str) (J : Nat → σ → Prop) (c₀ : σ) (fix : List (Addr × Obj)) {news : List (Addr × Obj)}
    (hh : A.handled = none) (hl : s.heap.IsList l vs.toArray) (hlL : l ≠ L) (F : Fr h₀ L s.heap m₀) (N : News h₀ L s.heap news) (hin : ∀ p ∈ Led c₀ ++ fix, p ∈ news)
    (hoff : ∀ q ∈ Led c₀, ∀ p ∈ fix, @Ne Nat p.1 q.1) (hll : ∀ k c, J k c → ∀ p ∈ Led c, @Ne Nat p.1 l)
    (hps : ∀ p ∈ ps c₀, m₀ p.1 = some p.2) (hj : J 0 c₀)
    (turn : ∀ i v c u h tk own, vs[i]? = some v → i < vs.length → J i c → Fr h₀ L h (setv (ps c) (x :: st) u m₀) → News h₀ L h (Led c ++ (fix ++ own)) → (∀ q ∈ Led c, ∀ p ∈ fix ++ own, @Ne Nat p.1 q.1) →
      wpAny (model prog w) A (assign (.Tuple elts k pos) env v) (fun _ s₂ => wpAny (model prog w) A (execs body env) (ForPost h₀ L Led ps st m₀ x (J (i + 1)) (fix ++ own) { s with heap := h, toks := tk } Q) E s₂) E { s with heap := h, toks := tk })
    (done : ∀ c u h tk, J vs.length c → Fr h₀ L h (setv (ps c) (x :: st) u m₀) → News h₀ L h (Led c ++ fix) → (∀ q ∈ Led c, ∀ p ∈ fix, @Ne Nat p.1 q.1) → Q .next { s with heap := h, toks := tk }) :
    wpAny (model prog w) A (pyIter (.ref l)) (fun it s₂ => TurnsAt prog w A h₀ env (.Tuple elts k pos) body Q E it s₂) E s := by
  subst hL
  obtain ⟨ol, hol, _⟩ := id hl
  have hlt : l < s.heap.objs.size := Heap.lt_size hol
  have hne : l ≠ s.heap.objs.size := Nat.ne_of_lt hlt
  refine wpAny_pyIter_list hl ?_
  have W := KTurns.ofWalks (target := .Tuple elts k pos) (Walks.list (prog := prog) (w := w) hh s.heap.objs.size l hne vs.toArray) (fun i v s Q E st hQ => go_listiter i v s Q E st hQ)
  have hsz : vs.toArray.size = vs.length := by simp
  rw [hsz] at W
  have up : ∀ b o, s.heap.get? b = some o → (s.heap.push { cls := .type "list_iterator", data := .fields #[.ref l, .int 0 0] }).get? b = some o := fun b o e => Heap.get?_push_of_some _ e
  refine iter_turns W Led ps st J c₀ fix ?_ (fun b hb => by rw [List.mem_singleton.mp hb]; exact next_is_new F) ⟨⟨_, Heap.get?_push_size _ rfl, rfl, rfl⟩, hl.at fun o e => up _ o e⟩ (F.push _) (fun p hp => ⟨up _ _ (N p hp).1, (N p hp).2⟩) hin
    (fun p hp hm => Nat.ne_of_lt (Heap.lt_size (N p (hin p hp)).1) (List.mem_singleton.mp hm)) hoff (fun k c hJc p hp hI hm => ?_) hps hj (fun i h hSt b hb => ?_) (fun i v c u h tk own hP hi hJ F N hs _ => turn i v c u h tk own (by simpa using hP) hi hJ F N hs) done
  · intro hm
    rcases List.mem_cons.mp hm with e | hm
    · exact absurd F.ns.lt (e ▸ Nat.lt_irrefl _)
    · exact hlL (List.mem_singleton.mp hm).symm
  · rcases List.mem_cons.mp hm with e | hm
    · exact hI (by rw [e]; exact List.mem_singleton.mpr rfl)
    · exact hll k c hJc p hp (List.mem_singleton.mp hm)
  · rw [List.mem_singleton.mp hb]
    obtain ⟨⟨o, e, _⟩, _⟩ := hSt; exact ⟨o, e⟩
end
end Mine
namespace Mine
theorem nat_list {l : List Int} {ns : List Nat} (p : l.Perm (ns.map Int.ofNat)) : ∃ ms : List Nat, l = ms.map Int.ofNat ∧ ms.Perm ns := by
  have e : l = (l.map Int.toNat).map Int.ofNat := by
    rw [List.map_map]
    refine (List.map_congr_left (g := id) (fun x hx => ?_)).trans (List.map_id l) |>.symm
    obtain ⟨n, _, rfl⟩ := List.mem_map.mp (p.mem_iff.mp hx)
    rfl
  refine ⟨l.map Int.toNat, e, ?_⟩
  have q := p.map Int.toNat
  rw [List.map_map] at q
  have : ns.map (Int.toNat ∘ Int.ofNat) = ns := (List.map_congr_left (g := id) (fun x _ => rfl)).trans (List.map_id ns)
  rwa [this] at q
section
variable {prog : Program} {w : World} {A : Around} {E : Value → Shared → Prop} {s : Shared} {h₀ : Heap} {L l : Addr} {m : Str → Option Value} {news : List (Addr × Obj)} {vs : List Value} {ns : List Nat} {Q : Value → Shared → Prop}
theorem sorted_r (F : Fr h₀ L s.heap m) (N : News h₀ L s.heap news) (hl : s.heap.IsList l vs.toArray) (hi : NV vs ns) (h64 : ns.length < 64)
    (h : ∀ D vs' ns' c h', Fr h₀ L h' m → News h₀ L h' ((D, listOf vs'.toArray c) :: news) → (∀ q ∈ news, q.1 < D) → NV vs' ns' → ns'.Perm ns → ns'.Pairwise (· ≤ ·) → Q (.ref D) { s with heap := h' }) :
    wpAny (model prog w) A (call (.builtin "sorted") [.ref l]) Q E s := by
  refine kso_sorted F N hl hi (by simpa using h64) fun D vs' ns' c h' F' N' l1 hi' _ hp hs _ => ?_
  obtain ⟨ms, e, hp'⟩ := nat_list hp
  subst e
  refine h D vs' ms c h' F' N' l1 hi' hp' ?_
  rw [List.pairwise_map] at hs
  exact hs.imp fun {a b} q => Int.ofNat_le.mp q
theorem sorted_eq {a b : List Nat} (p : a.Perm b) (sa : a.Pairwise (· ≤ ·)) (sb : b.Pairwise (· ≤ ·)) : a = b :=
  List.Perm.eq_of_pairwise (fun _ _ _ _ h1 h2 => Nat.le_antisymm h1 h2) sa sb p
end
end Mine
namespace Mine
section
variable {prog : Program} {w : World} {A : Around} {E : Value → Shared → Prop} {s : Shared} {env : Env} {h₀ : Heap} {x : Str} {body : List Stmt} {Q : Flow → Shared → Prop} {m₀ : Str → Option Value} {l : Addr} {vs : List Value} {target : Expr}

theorem KTurns.withSt {I : Addr} {fp wr : List Addr} {n : Nat} {P Md : Nat → Value → Heap → Prop} {St : Nat → Heap → Prop} (W : KTurns prog w A target I fp wr n P Md St) :
    KTurns prog w A target I fp wr n (fun i v h => P i v h ∧ St (i + 1) h) Md St :=
  ⟨W.sub, W.frame, W.item, fun i v s Q E hm hQ => W.go i v s Q E hm fun h' hP hS hk => hQ h' ⟨hP, hS⟩ hS hk, W.done⟩

theorem iter_turns2 {σ : Type} {I : Addr} {fp wr : List Addr} {n : Nat} {P Md : Nat → Value → Heap → Prop} {St : Nat → Heap → Prop} (W : KTurns prog w A target I fp wr n P Md St) (Led : σ → List (Addr × Obj)) (ps : σ → List (Str × Value)) (st : List Str) (J : Nat → σ → Prop) (c₀ : σ) (fix : List (Addr × Obj)) {news : List (Addr × Obj)}
    (hLf : env.locals ∉ fp) (hI0 : ∀ b ∈ wr, h₀.get? b = none) (hst : St 0 s.heap) (F : Fr h₀ env.locals s.heap m₀) (N : News h₀ env.locals s.heap news) (hin : ∀ p ∈ Led c₀ ++ fix, p ∈ news)
    (hIn : ∀ p ∈ Led c₀ ++ fix, p.1 ∉ wr) (hoff : ∀ q ∈ Led c₀, ∀ p ∈ fix, @Ne Nat p.1 q.1) (hfp : ∀ p ∈ Led c₀, p.1 ∉ fp)
    (hps : ∀ p ∈ ps c₀, m₀ p.1 = some p.2) (hj : J 0 c₀)
    (hlive : ∀ i h, St i h → ∀ b ∈ fp, ∃ o, h.get? b = some o)
    (turn : ∀ i v c u h tk own, P i v h → i < n → J i c → Fr h₀ env.locals h (setv (ps c) (x :: st) u m₀) → News h₀ env.locals h (Led c ++ (fix ++ own)) → (∀ q ∈ Led c, ∀ p ∈ fix ++ own, @Ne Nat p.1 q.1) →
      wpAny (model prog w) A (assign target env v) (fun _ s₂ => wpAny (model prog w) A (execs body env) (ForPost h₀ env.locals Led ps st m₀ x (J (i + 1)) (fix ++ own) { s with heap := h, toks := tk } Q) E s₂) E { s with heap := h, toks := tk })
    (done : ∀ c u h tk, J n c → Fr h₀ env.locals h (setv (ps c) (x :: st) u m₀) → News h₀ env.locals h (Led c ++ fix) → (∀ q ∈ Led c, ∀ p ∈ fix, @Ne Nat p.1 q.1) → Q .next { s with heap := h, toks := tk }) :
    TurnsAt prog w A h₀ env target body Q E (.ref I) s := by
  refine iter_turns (KTurns.withSt W) Led ps st (fun i c => J i c ∧ ∀ p ∈ Led c, p.1 ∉ fp) c₀ fix hLf hI0 hst F N hin hIn hoff (fun i c h p hp _ => h.2 p hp) hps ⟨hj, hfp⟩ (fun i h hS b hb => hlive i h hS b (W.sub b hb)) ?_ (fun c u h tk hJ => done c u h tk hJ.1)
  intro i v c u h tk own hP hi hJ F₁ N₁ hsep hall
  refine wpAny_mono (turn i v c u h tk own hP.1 hi hJ.1 F₁ N₁ hsep) (fun _ s₂ hb => wpAny_mono hb (fun f s₃ p => ?_) fun _ _ e => e) fun _ _ e => e
  have fin : ForEnd h₀ env.locals Led ps st m₀ x (J (i + 1)) (fix ++ own) { s with heap := h, toks := tk } s₃ → ForEnd h₀ env.locals Led ps st m₀ x (fun c => J (i + 1) c ∧ ∀ p ∈ Led c, p.1 ∉ fp) (fix ++ own) { s with heap := h, toks := tk } s₃ := by
    rintro ⟨c', h', tk', m', news', e, F', N', hm, hs, hp1', hp2', hJ'⟩
    refine ⟨c', h', tk', m', news', e, F', N', hm, hs, hp1', hp2', hJ', fun q hq hb => ?_⟩
    obtain ⟨o, ho⟩ := hlive _ _ hP.2 q.1 hb
    have h0 := (N' q (hm q (List.mem_append_left _ hq))).2.2
    exact hs q hq (q.1, o) (List.mem_append_right _ (hall q.1 hb h0 o ho)) rfl
  cases f with
  | ret v => exact p
  | brk => exact p
  | next => exact fin p
  | cont => exact fin p

theorem iter_zip {L : Addr} (hL : env.locals = L) {σ : Type} {elts : List Expr} {k : Nat} {pos : Pos} {l1 l2 : Addr} {xs ys : List Value} (Led : σ → List (Addr × Obj)) (ps : σ → List (Str × Value)) (st : List Str) (J : Nat → σ → Prop) (c₀ : σ) (fix : List (Addr × Obj)) {news : List (Addr × Obj)}
    (hh : A.handled = none) (hl1 : s.heap.IsList l1 xs.toArray) (hl2 : s.heap.IsList l2 ys.toArray) (h1L : l1 ≠ L) (h2L : l2 ≠ L) (F : Fr h₀ L s.heap m₀) (N : News h₀ L s.heap news) (hin : ∀ p ∈ Led c₀ ++ fix, p ∈ news)
    (hoff : ∀ q ∈ Led c₀, ∀ p ∈ fix, @Ne Nat p.1 q.1) (hll : ∀ p ∈ Led c₀, @Ne Nat p.1 l1 ∧ @Ne Nat p.1 l2)
    (hps : ∀ p ∈ ps c₀, m₀ p.1 = some p.2) (hj : J 0 c₀)
    (turn : ∀ i T a b c u h tk own, xs[i]? = some a → ys[i]? = some b → h.IsTuple T #[a, b] → J i c → Fr h₀ L h (setv (ps c) (x :: st) u m₀) → News h₀ L h (Led c ++ (fix ++ own)) → (∀ q ∈ Led c, ∀ p ∈ fix ++ own, @Ne Nat p.1 q.1) →
      wpAny (model prog w) A (assign (.Tuple elts k pos) env (.ref T)) (fun _ s₂ => wpAny (model prog w) A (execs body env) (ForPost h₀ L Led ps st m₀ x (J (i + 1)) (fix ++ own) { s with heap := h, toks := tk } Q) E s₂) E { s with heap := h, toks := tk })
    (done : ∀ c u h tk, J (min xs.length ys.length) c → Fr h₀ L h (setv (ps c) (x :: st) u m₀) → News h₀ L h (Led c ++ fix) → (∀ q ∈ Led c, ∀ p ∈ fix, @Ne Nat p.1 q.1) → Q .next { s with heap := h, toks := tk }) :
    wpAny (model prog w) A (call (.type "zip") [.ref l1, .ref l2]) (fun xv s₁ => wpAny (model prog w) A (pyIter xv) (fun it s₂ => TurnsAt prog w A h₀ env (.Tuple elts k pos) body Q E it s₂) E s₁) E s := by
  subst hL
  have hlt1 : l1 < s.heap.objs.size := by obtain ⟨_, e, _⟩ := hl1; exact Heap.lt_size e
  have hlt2 : l2 < s.heap.objs.size := by obtain ⟨_, e, _⟩ := hl2; exact Heap.lt_size e
  have hLs : env.locals < s.heap.objs.size := F.ns.lt
  have D : ZipApart (s.heap.objs.size + 4) (s.heap.objs.size + 2) (s.heap.objs.size + 3) s.heap.objs.size (s.heap.objs.size + 1) l1 l2 := ktu_apart _ _ _ hlt1 hlt2
  refine call_zip_2 hl1 hl2 fun h' hz hTI hTO hi1 hi2 hsz hk => ?_
  refine wpAny_pyIter_zip hz ?_
  have W := KTurns.ofWalksU (elts := elts) (k := k) (pos := pos) (WalksT.zip2 (prog := prog) (w := w) hh _ _ _ _ _ _ _ D xs.toArray ys.toArray).toU
  have hn : min xs.toArray.size ys.toArray.size = min xs.length ys.length := by simp
  rw [hn] at W
  refine iter_turns2 W Led ps st J c₀ fix ?_ ?_ ⟨hz, hTI, ⟨_, _, hTO⟩, hi1, hi2, hl1.at fun o e => hk l1 o e, hl2.at fun o e => hk l2 o e⟩ (F.keeps hk) (N.grown hk) hin ?_ hoff ?_ hps hj ?_ ?_ done
  · intro hI'
    have hb' : env.locals = s.heap.objs.size + 4 ∨ env.locals = s.heap.objs.size + 2 ∨ env.locals = s.heap.objs.size + 3 ∨ env.locals = s.heap.objs.size ∨ env.locals = s.heap.objs.size + 1 ∨ env.locals = l1 ∨ env.locals = l2 := by simpa using hI'
    rcases hb' with e | e | e | e | e | e | e
    · exact ktu_ne 4 hLs e
    · exact ktu_ne 2 hLs e
    · exact ktu_ne 3 hLs e
    · exact Nat.ne_of_lt hLs e
    · exact ktu_ne 1 hLs e
    · exact h1L e.symm
    · exact h2L e.symm
  · intro b hb
    have hb' : b = s.heap.objs.size + 4 ∨ b = s.heap.objs.size + 3 ∨ b = s.heap.objs.size ∨ b = s.heap.objs.size + 1 := by simpa using hb
    rcases hb' with rfl | rfl | rfl | rfl
    · exact ktu_new F (Nat.le_add_right _ _)
    · exact ktu_new F (Nat.le_add_right _ _)
    · exact ktu_new F (Nat.le_refl _)
    · exact ktu_new F (Nat.le_add_right _ _)
  · intro p hp hI'
    have hb' : p.1 = s.heap.objs.size + 4 ∨ p.1 = s.heap.objs.size + 3 ∨ p.1 = s.heap.objs.size ∨ p.1 = s.heap.objs.size + 1 := by simpa using hI'
    have hlp := Heap.lt_size (N p (hin p hp)).1
    rcases hb' with e | e | e | e
    · exact ktu_ne 4 hlp e
    · exact ktu_ne 3 hlp e
    · exact Nat.ne_of_lt hlp e
    · exact ktu_ne 1 hlp e
  · intro p hp hI'
    have hb' : p.1 = s.heap.objs.size + 4 ∨ p.1 = s.heap.objs.size + 2 ∨ p.1 = s.heap.objs.size + 3 ∨ p.1 = s.heap.objs.size ∨ p.1 = s.heap.objs.size + 1 ∨ p.1 = l1 ∨ p.1 = l2 := by simpa using hI'
    have hlp := Heap.lt_size (N p (hin p (List.mem_append_left _ hp))).1
    rcases hb' with e | e | e | e | e | e | e
    · exact ktu_ne 4 hlp e
    · exact ktu_ne 2 hlp e
    · exact ktu_ne 3 hlp e
    · exact Nat.ne_of_lt hlp e
    · exact ktu_ne 1 hlp e
    · exact (hll p hp).1 e
    · exact (hll p hp).2 e
  · rintro i h ⟨hz, hTI, ⟨a, b, hTO⟩, ⟨o1, ho1, _⟩, ⟨o2, ho2, _⟩, ⟨o3, ho3, _⟩, ⟨o4, ho4, _⟩⟩ b hb
    have hb' : b = s.heap.objs.size + 4 ∨ b = s.heap.objs.size + 2 ∨ b = s.heap.objs.size + 3 ∨ b = s.heap.objs.size ∨ b = s.heap.objs.size + 1 ∨ b = l1 ∨ b = l2 := by simpa using hb
    rcases hb' with rfl | rfl | rfl | rfl | rfl | rfl | rfl
    · exact ⟨_, hz⟩
    · exact ⟨_, hTI⟩
    · exact ⟨_, hTO⟩
    · exact ⟨_, ho1⟩
    · exact ⟨_, ho2⟩
    · exact ⟨_, ho3⟩
    · exact ⟨_, ho4⟩
  · rintro i v c u h tk own ⟨T, vals, rfl, ⟨a, b, hx, hy, rfl⟩, hT⟩ hi hJ F N hs
    exact turn i T a b c u h tk own (by simpa using hx) (by simpa using hy) hT hJ F N hs
end
end Mine
namespace Mine
open PyProof.Rows.LCg (lst NsObj ns_obj lst_snoc)
section
variable {prog : Program} {w : World} {A : Around} {E : Value → Shared → Prop} {s : Shared} {env : Env} {h₀ : Heap} {L : Addr} {m : Str → Option Value} {elt : Expr} {x : Str} {ifs : List Expr} {scope : Scope} {cl : List (Str × Addr)}

noncomputable abbrev testsOf (ifs : List Expr) (cenv : Env) : Sem Bool := forIn ifs true fun c r => if r = true then do let ok ← isTrue c cenv (eval c cenv); pure (ForInStep.yield ok) else pure (ForInStep.yield r)

inductive CStep (h₀ : Heap) (L : Addr) (m : Str → Option Value) (J : List Value → List (Addr × Obj) → Prop) (own : List (Addr × Obj)) (bad : List Addr) (ys : List Value) (s₁ s₂ : Shared) : Prop
  | ik (h' : _) (tk' : _) (news' : _)
    (f0 : s₂ = { s₁ with heap := h', toks := tk' })
    (f1 : Fr h₀ L h' m)
    (f2 : News h₀ L h' (own ++ news'))
    (f3 : (∀ p ∈ news', p.1 ∉ bad))
    (f4 : J ys news') : CStep h₀ L m J own bad ys s₁ s₂

inductive CompAt (prog : Program) (w : World) (A : Around) (h₀ : Heap) (L : Addr) (m : Str → Option Value) (env : Env) (elt : Expr) (x : Str) (ifs : List Expr) (scope : Scope) (cl : List (Str × Addr)) (mf : Addr → Str → Option Value) (Fin : Addr → Shared → Prop) (it : Value) (s₂ : Shared) : Prop
  | ik (I : Addr) (fp : List Addr) (n : Nat) (P : Nat → Value → Prop) (St : Nat → Heap → Prop) (news : List (Addr × Obj)) (J : Nat → List Value → List (Addr × Obj) → Prop)
    (f0 : it = .ref I)
    (f1 : Walks prog w A I fp [I] n P St)
    (f2 : n ≤ sizeLine)
    (f3 : L ∉ fp)
    (f4 : h₀.get? I = none)
    (f5 : (∀ b ∈ fp, b < s₂.heap.objs.size))
    (f6 : (∀ p ∈ news, p.1 ≠ I))
    (f7 : St 0 s₂.heap)
    (f8 : (∀ i h, St i h → ∀ b ∈ fp, ∃ o, h.get? b = some o))
    (f9 : Fr h₀ L s₂.heap m)
    (f10 : News h₀ L s₂.heap news)
    (f11 : J 0 [] news)
    (f12 : (∀ i v ys news₁ h₁ tk₁ own bad C oC m₂ E', i < n → P i v → ys.length ≤ i → J i ys news₁ → (∀ b ∈ fp, h₀.get? b = none → ∀ o, h₁.get? b = some o → (b, o) ∈ own) → (∀ p ∈ own, p.1 ∈ fp ∨ p.1 ∈ bad) → (∀ b ∈ bad, ∃ o, (b, o) ∈ own) → (∀ b ∈ fp, ∃ o, h₁.get? b = some o) → (∀ p ∈ news₁, p.1 ∉ bad) → (C, oC) ∈ own → NsObj oC m₂ → m₂ x = some v → Fr h₀ L h₁ m → News h₀ L h₁ (own ++ news₁) → wpAny (model prog w) A (testsOf ifs (compEnvC scope cl C env)) (fun ok s₃ => if ok = true then wpAny (model prog w) A (eval elt (compEnvC scope cl C env)) (fun y s₄ => CStep h₀ L m (fun ys nw => J (i + 1) ys nw) own bad (ys ++ [y]) { s₂ with heap := h₁, toks := tk₁ } s₄) E' s₃ else CStep h₀ L m (fun ys nw => J (i + 1) ys nw) own bad ys { s₂ with heap := h₁, toks := tk₁ } s₃) E' { s₂ with heap := h₁, toks := tk₁ }))
    (f13 : ∀ D h' tk ys news', J n ys news' → ys.length ≤ n → Fr h₀ L h' (mf D) → News h₀ L h' ((D, lst ys) :: news') → (∀ p ∈ news', @Ne Nat p.1 D) → Fin D { s₂ with heap := h', toks := tk }) : CompAt prog w A h₀ L m env elt x ifs scope cl mf Fin it s₂

inductive CInv (h₀ : Heap) (L : Addr) (m : Str → Option Value) (n : Nat) (St : Nat → Heap → Prop) (J : Nat → List Value → List (Addr × Obj) → Prop) (I D C : Addr) (s₂ : Shared) (k : Nat) (s' : Shared) : Prop
  | ik (h' : Heap) (tk : Nat) (i : Nat) (ys : List Value) (m' : Str → Option Value) (news' : List (Addr × Obj))
    (f0 : s' = { s₂ with heap := h', toks := tk }) (f1 : i ≤ n) (f2 : k = n + 1 - i) (f3 : ys.length ≤ i) (f4 : St i h') (f5 : Fr h₀ L h' m) (f6 : h'.Ns C m') (f7 : News h₀ L h' ((D, lst ys) :: news')) (f8 : (∀ p ∈ news', p.1 ≠ I ∧ p.1 ≠ D ∧ p.1 ≠ C)) (f9 : J i ys news') : CInv h₀ L m n St J I D C s₂ k s'
inductive CAft (h₀ : Heap) (L : Addr) (m : Str → Option Value) (St : Nat → Heap → Prop) (J : Nat → List Value → List (Addr × Obj) → Prop) (I D C : Addr) (s₂ : Shared) (oC oD : Obj) (i : Nat) (zs : List Value) (s₅ : Shared) : Prop
  | ik (h₄ : Heap) (tk₄ : Nat) (news₄ : List (Addr × Obj))
    (f0 : s₅ = { s₂ with heap := h₄, toks := tk₄ }) (f1 : Fr h₀ L h₄ m) (f2 : h₄.get? C = some oC) (f3 : h₄.get? D = some oD) (f4 : News h₀ L h₄ news₄) (f5 : St (i + 1) h₄) (f6 : (∀ p ∈ news₄, p.1 ≠ I ∧ p.1 ≠ D ∧ p.1 ≠ C)) (f7 : J (i + 1) zs news₄) : CAft h₀ L m St J I D C s₂ oC oD i zs s₅
theorem comp_block {iter : Expr} {px : Pos} {pos : Pos} {s₂ : Shared} {it : Value} {mf : Addr → Str → Option Value} {Fin : Addr → Shared → Prop} {RR : Value → Addr → Result → Shared → Prop}
    (hcell : ∀ y ∈ scope.names, y.2 ≠ .cell) (hkind : scope.kind = .function) (hx : scope.names.lookup x = some .local)
    (H : CompAt prog w A h₀ L m env elt x ifs scope cl mf Fin it s₂)
    (hRR : ∀ D C h tk m', Fr h₀ L h m → D ≠ L → h₀.get? D = none → h.Ns C m' → h₀.get? C = none → C ≠ L → C ≠ D →
      (∀ h' tk', Fr h₀ L h' (mf D) → (∀ b o, b ≠ C → b ≠ L → h.get? b = some o → h'.get? b = some o) → Fin D { s₂ with heap := h', toks := tk' }) → RR (.ref D) C (.ok .next) { s₂ with heap := h, toks := tk }) :
    wpAny (model prog w) A (newList []) (fun acc s₃ => wpAny (model prog w) A (newFunctionEnv scope env.globals cl [] env.qual none .none (some env)) (fun cenv s₄ =>
      codeAny (model prog w) A (.compStart (.ListComp elt [⟨.Name x px, iter, ifs, 0⟩] scope pos) 0 it acc { cenv with scope := relabel scope env }) (RR acc cenv.locals) s₄) E s₃) E s₂ := by
  obtain ⟨I, fp, n, P, St, news, J, rfl, W, hsz, hLf, hI₀, hfp, hnI, hst, hlive, F, N, hJ, step, done⟩ := H
  refine wpAny_newObj_type (wpAny_newFunctionEnv hcell (by intro y hy; simp at hy) (fun h₁ hns₁ hsb₁ => ?_) hkind)
  dsimp only at hns₁ hsb₁ ⊢
  generalize hH2 : s₂.heap.push { cls := .type "list", dict := none, data := .seq ([] : List Value).toArray } = H2 at hns₁ hsb₁ ⊢
  have hC : H2.objs.size = s₂.heap.objs.size + 1 := by rw [← hH2, Heap.size_push]
  have hDC : s₂.heap.objs.size ≠ H2.objs.size := by rw [hC]; exact Nat.ne_of_lt (Nat.lt_succ_self _)
  have below : ∀ b, b < s₂.heap.objs.size → b ≠ H2.objs.size ∧ b ≠ s₂.heap.objs.size := fun b hb => ⟨by rw [hC]; exact Nat.ne_of_lt (Nat.lt_succ_of_lt hb), Nat.ne_of_lt hb⟩
  have hDf : s₂.heap.objs.size ∉ fp := fun hm => Nat.lt_irrefl _ (hfp _ hm)
  have hCf : H2.objs.size ∉ fp := fun hm => by have := hfp _ hm; rw [hC] at this; exact Nat.lt_irrefl _ (Nat.lt_of_succ_lt this)
  have hIf : I ∈ fp := W.sub I (List.mem_singleton.mpr rfl)
  have hIlt : I < s₂.heap.objs.size := hfp I hIf
  have old : ∀ b o, s₂.heap.get? b = some o → h₁.get? b = some o := fun b o e => hsb₁.extBut b o (below b (Heap.lt_size e)).1 (Heap.get?_push_of_some _ (hH2 ▸ Heap.get?_push_of_some _ e))
  have hacc : h₁.get? s₂.heap.objs.size = some (lst []) := hsb₁.extBut _ _ hDC (Heap.get?_push_of_some _ (hH2 ▸ Heap.get?_push_size _ rfl))
  have hst₁ : St 0 h₁ := W.frame _ _ _ hst fun b _ o e => old b o e
  have fresh₀ : ∀ a, s₂.heap.objs.size ≤ a → h₀.get? a = none := fun a ha => by
    cases e : h₀.get? a with
    | none => rfl
    | some o' => exact absurd (Heap.lt_size (F.keep a o' e)) (Nat.not_lt.mpr ha)
  have hD₀ : h₀.get? s₂.heap.objs.size = none := fresh₀ _ (Nat.le_refl _)
  have hC₀ : h₀.get? H2.objs.size = none := fresh₀ _ (by rw [hC]; exact Nat.le_succ _)
  have hLlt : L < s₂.heap.objs.size := F.ns.lt
  have hDL : s₂.heap.objs.size ≠ L := Ne.symm (below L hLlt).2
  have hCL : H2.objs.size ≠ L := Ne.symm (below L hLlt).1
  have hCI : I ≠ H2.objs.size := (below I hIlt).1
  have hDI : I ≠ s₂.heap.objs.size := (below I hIlt).2
  have hIL : L ≠ I := fun e => hLf (e ▸ hIf)
  generalize hDd : s₂.heap.objs.size = D at *
  generalize hCc : H2.objs.size = C at *
  have off₀ : ∀ p ∈ news, p.1 ≠ D ∧ p.1 ≠ C := fun p hp => ⟨(below _ (by rw [← hDd]; exact Heap.lt_size (N p hp).1)).2, (below _ (by rw [← hDd]; exact Heap.lt_size (N p hp).1)).1⟩
  have loop : ∀ s₃ : Shared, s₃ = { s₂ with heap := h₁, toks := s₂.toks + ([] : List (Str × Value)).length } →
      codeAny (model prog w) A (.compLoop (.ListComp elt [⟨.Name x px, iter, ifs, 0⟩] scope pos) 0 (.ref I) (.ref D) (compEnvC scope cl C env))
        (RR (.ref D) C) s₃ := by
    rintro s₃ rfl
    refine codeAny_compLoop_tests
      (CInv h₀ L m n St J I D C s₂) ?_ (n + 1)
      ⟨h₁, _, 0, [], _, news, rfl, Nat.zero_le _, rfl, Nat.le_refl _, hst₁, F.keeps old, hns₁, fun p hp => ?_, fun p hp => ⟨hnI p hp, off₀ p hp⟩, hJ⟩
    · rintro k s' ⟨h', tk, i, ys, m', news', rfl, hi, rfl, hyl, hst', F', hn', N', off', hJ'⟩
      by_cases hlt : i < n
      · refine W.item i _ _ _ hlt hst' fun v h₂ tk₂ hPv hst₂ hk₂ => ?_
        refine wpAny_assign_Name (wpAny_storeName_local (lookup_relabel_local hx) (hn'.at' fun o e => hk₂ _ o (by simpa using Ne.symm hCI) e) (fun h₃ hn₃ hs₃ => ?_) (by simp [compEnvC, relabel, hkind]))
        have hst₃ : St (i + 1) h₃ := W.frame _ _ _ hst₂ fun b hb o e => hs₃.extBut b o (fun q => hCf (by have q' : b = C := q; rw [← q']; exact hb)) e
        obtain ⟨oC, heC, hoC⟩ := ns_obj hn₃
        have F₃ : Fr h₀ L h₃ m := (LCg.fr_but F' hk₂ hIL hI₀).change hs₃ hCL hC₀
        have N₂ : News h₀ L h₂ ((D, lst ys) :: news') := LCg.news_but N' hk₂ fun p hp => by
          rcases List.mem_cons.mp hp with rfl | hp
          · exact Ne.symm hDI
          · exact (off' p hp).1
        have hD₃ : h₃.get? D = some (lst ys) := hs₃.extBut _ _ hDC (N₂ _ List.mem_cons_self).1
        have Nown : News h₀ L h₃ (PyProof.Rows.ownOf h₀ fp h₃) := news_ownOf hLf
        have N₃ : News h₀ L h₃ ((PyProof.Rows.ownOf h₀ fp h₃ ++ [(C, oC), (D, lst ys)]) ++ news') := fun p hp => by
          rcases List.mem_append.mp hp with hp | hp
          · rcases List.mem_append.mp hp with hp | hp
            · exact Nown p hp
            · rcases List.mem_cons.mp hp with rfl | hp
              · exact ⟨heC, hCL, hC₀⟩
              · rw [List.mem_singleton.mp hp]; exact ⟨hD₃, hDL, hD₀⟩
          · exact ⟨hs₃.extBut _ _ (off' p hp).2.2 (N₂ p (List.mem_cons_of_mem _ hp)).1, (N₂ p (List.mem_cons_of_mem _ hp)).2⟩
        have hIown : ∃ o, (I, o) ∈ PyProof.Rows.ownOf h₀ fp h₃ := by
          obtain ⟨oI, hoI⟩ := hlive _ _ hst₃ I hIf
          exact ⟨oI, mem_ownOf hIf hI₀ hoI⟩
        have T := step i v ys news' h₃ (tk₂ + 1) (PyProof.Rows.ownOf h₀ fp h₃ ++ [(C, oC), (D, lst ys)]) [I, D, C] C oC _ (notedBy (model prog w) A (compEnvC scope cl C env) fun e s' => RR (.ref D) C (.error e) s') hlt hPv hyl hJ'
          (fun b hb hn o e => List.mem_append_left _ (mem_ownOf hb hn e)) (fun p hp => by
            rcases List.mem_append.mp hp with hp | hp
            · exact .inl (ownOf_sub p hp)
            · rcases List.mem_cons.mp hp with rfl | hp
              · exact .inr (by simp)
              · rw [List.mem_singleton.mp hp]; exact .inr (by simp))
          (fun b hb => by
            have hb' : b = I ∨ b = D ∨ b = C := by simpa using hb
            rcases hb' with rfl | rfl | rfl
            · obtain ⟨o, ho⟩ := hIown; exact ⟨o, List.mem_append_left _ ho⟩
            · exact ⟨lst ys, by simp⟩
            · exact ⟨oC, by simp⟩)
          (hlive _ _ hst₃) (fun p hp hb => by
            have hb' : p.1 = I ∨ p.1 = D ∨ p.1 = C := by simpa using hb
            rcases hb' with e | e | e
            · exact (off' p hp).1 e
            · exact (off' p hp).2.1 e
            · exact (off' p hp).2.2 e)
          (List.mem_append_right _ List.mem_cons_self) hoC (by simp) F₃ N₃
        have after : ∀ zs s₅, CStep h₀ L m (fun ys nw => J (i + 1) ys nw) (PyProof.Rows.ownOf h₀ fp h₃ ++ [(C, oC), (D, lst ys)]) [I, D, C] zs { s₂ with heap := h₃, toks := tk₂ + 1 } s₅ →
            CAft h₀ L m St J I D C s₂ oC (lst ys) i zs s₅ := by
          rintro zs s₅ ⟨h₄, tk₄, news₄, rfl, F₄, N₄, hsep, hJ₄⟩
          have own_ : ∀ p ∈ PyProof.Rows.ownOf h₀ fp h₃ ++ [(C, oC), (D, lst ys)], h₄.get? p.1 = some p.2 := fun p hp => (N₄ p (List.mem_append_left _ hp)).1
          refine ⟨h₄, tk₄, news₄, rfl, F₄, own_ (C, oC) (List.mem_append_right _ List.mem_cons_self), own_ (D, lst ys) (List.mem_append_right _ (List.mem_cons_of_mem _ List.mem_cons_self)), fun p hp => N₄ p (List.mem_append_right _ hp), ?_, fun p hp => ?_, hJ₄⟩
          · refine W.frame _ _ _ hst₃ fun b hb o e => ?_
            cases hn : h₀.get? b with
            | some o₀ =>
              have : o₀ = o := by have q := F₃.keep b o₀ hn; rw [e] at q; exact (Option.some.inj q).symm
              exact this ▸ F₄.keep b o₀ hn
            | none => exact own_ (b, o) (List.mem_append_left _ (mem_ownOf hb hn e))
          · have := hsep p hp
            simp only [List.mem_cons, List.not_mem_nil, or_false, not_or] at this
            exact this
        refine wpAny_mono T (fun ok s₄ hq => ?_) fun _ _ e => e
        cases ok with
        | false =>
          simp only [Bool.false_eq_true, if_false] at hq ⊢
          obtain ⟨h₄, tk₄, news₄, rfl, F₄, zC, zD, N₄, hst₄, off₄, hJ₄⟩ := after _ _ hq
          refine ⟨n + 1 - (i + 1), by omega, h₄, tk₄, i + 1, ys, _, news₄, rfl, hlt, rfl, by omega, hst₄, F₄, hoC.ns zC, fun p hp => ?_, off₄, hJ₄⟩
          rcases List.mem_cons.mp hp with rfl | hp
          · exact ⟨zD, hDL, hD₀⟩
          · exact N₄ p hp
        | true =>
          simp only [if_true] at hq ⊢
          refine wpAny_mono hq (fun y s₅ hq5 => ?_) fun _ _ e => e
          obtain ⟨h₄, tk₄, news₄, rfl, F₄, zC, zD, N₄, hst₄, off₄, hJ₄⟩ := after _ _ hq5
          refine append_at (hsz := by show ys.toArray.size ≤ sizeLine; rw [List.size_toArray]; omega) zD fun h₅ hs₅ hD₅ => ?_
          refine ⟨n + 1 - (i + 1), by omega, h₅, tk₄, i + 1, ys ++ [y], _, news₄, rfl, hlt, rfl, by rw [List.length_append, List.length_singleton]; omega, W.frame _ _ _ hst₄ fun b hb o e => hs₅.extBut b o (fun q => hDf (q ▸ hb)) e, F₄.change hs₅ hDL hD₀,
            (hoC.ns zC).sameBut hs₅ (Ne.symm hDC), fun p hp => ?_, off₄, hJ₄⟩
          rcases List.mem_cons.mp hp with rfl | hp
          · exact ⟨hD₅.trans (congrArg some (lst_snoc ys y)), hDL, hD₀⟩
          · exact ⟨hs₅.extBut _ _ (off₄ p hp).2.1 (N₄ p hp).1, (N₄ p hp).2⟩
      · obtain rfl : i = n := Nat.le_antisymm hi (Nat.not_lt.mp hlt)
        refine W.done _ _ _ hst' fun h₂ tk₂ hk₂ => ?_
        have N₂ : News h₀ L h₂ ((D, lst ys) :: news') := LCg.news_but N' hk₂ fun p hp => by
          rcases List.mem_cons.mp hp with rfl | hp
          · exact Ne.symm hDI
          · exact (off' p hp).1
        refine hRR D C h₂ tk₂ _ (LCg.fr_but F' hk₂ hIL hI₀) hDL hD₀ (hn'.at' fun o e => hk₂ _ o (by simpa using Ne.symm hCI) e) hC₀ hCL (Ne.symm hDC) fun h'' tk'' F'' hk'' => ?_
        refine done D h'' tk'' ys news' hJ' hyl F'' (fun p hp => ?_) fun p hp => (off' p hp).2.1
        have hp2 : p.1 ≠ C := by
          rcases List.mem_cons.mp hp with rfl | hp
          · exact hDC
          · exact (off' p hp).2.2
        exact ⟨hk'' _ _ hp2 (N₂ p hp).2.1 (N₂ p hp).1, (N₂ p hp).2⟩
    · rcases List.mem_cons.mp hp with rfl | hp
      · exact ⟨hacc, hDL, hD₀⟩
      · exact ⟨old _ _ (N p hp).1, (N p hp).2⟩
  exact codeAny_compStart_list (loop _ rfl) (W.self 0 _ _ _ hst₁ (loop _ rfl))

theorem eval_comp {iter : Expr} {px : Pos} {pos : Pos} {Q : Value → Shared → Prop} (_F₀ : Fr h₀ L s.heap m)
    (hclos : closureFor scope env = pure cl) (hcell : ∀ y ∈ scope.names, y.2 ≠ .cell) (hkind : scope.kind = .function)
    (hnames : ∀ y ∈ scope.names, y.2 = .local → scope.names.lookup y.1 = some .local) (hx : scope.names.lookup x = some .local)
    (h : wpAny (model prog w) A (eval iter env) (fun xv s₁ => wpAny (model prog w) A (pyIter xv) (fun it s₂ => CompAt prog w A h₀ L m env elt x ifs scope cl (fun _ => m) (fun D s' => Q (.ref D) s') it s₂) E s₁) E s)
    (hs : ∀ x, foldedSetIterable iter env x = pure x := by intro _; rfl) :
    wpAny (model prog w) A (eval (.ListComp elt [⟨.Name x px, iter, ifs, 0⟩] scope pos) env) Q E s := by
  rw [eval_ListComp]
  refine wpAny_comprehension_free (use := none) rfl hs hclos hkind hnames (wpAny_mono h (fun xv s₁ h₁ => wpAny_mono h₁ (fun it s₂ h₂ => ?_) fun _ _ e => e) fun _ _ e => e)
  refine comp_block (RR := fun acc C => compPost (model prog w) A E none Q acc C) hcell hkind hx h₂ ?_
  intro D C h tk m' F hDL hD₀ hn hC₀ hCL hCD fin
  exact ⟨m', hn, fun h'' hs'' => fin h'' tk (F.change hs'' hCL hC₀) fun b o hb _ e => hs''.extBut b o hb e⟩

theorem assign_comp {iter : Expr} {y : Str} {px py : Pos} {pos spos : Pos} {Q : Flow → Shared → Prop} (_F₀ : Fr h₀ L s.heap m) (hLe : env.locals = L)
    (hsw : swapsWith (.ListComp elt [⟨.Name x px, iter, ifs, 0⟩] scope pos) (some (.Name y py)) spos.line env = pure true)
    (hclos : closureFor scope env = pure cl) (hcell : ∀ z ∈ scope.names, z.2 ≠ .cell) (hkind : scope.kind = .function)
    (hnames : ∀ z ∈ scope.names, z.2 = .local → scope.names.lookup z.1 = some .local) (hx : scope.names.lookup x = some .local)
    (hy : env.kindOf y = some .local) (hp : (env.scope.kind == .class || (env.scope.kind == .module && env.locals != env.globals)) = false)
    (h : wpAny (model prog w) A (eval iter env) (fun xv s₁ => wpAny (model prog w) A (pyIter xv) (fun it s₂ => CompAt prog w A h₀ L m env elt x ifs scope cl (fun D z => if z = y then some (.ref D) else m z) (fun _ s' => Q .next s') it s₂) E s₁) E s)
    (hs : ∀ x, foldedSetIterable iter env x = pure x := by intro _; rfl) :
    wpAny (model prog w) A (exec (.Assign [.Name y py] (.ListComp elt [⟨.Name x px, iter, ifs, 0⟩] scope pos) spos) env) Q E s := by
  subst hLe
  rw [exec_Assign_Name_used _ _ _ _ hsw]
  refine wpAny_bind (wpAny_standAt (wpAny_bind ?_))
  show wpAny _ A (do let _ ← comprehension (.ListComp elt [⟨.Name x px, iter, ifs, 0⟩] scope pos) scope env _ (newList []) false (eval iter env) (some (assign (.Name y py) env))) _ _ s
  refine wpAny_bind (wpAny_mono (wpAny_comprehension_free (use := some (assign (.Name y py) env)) (Q := fun _ s' => Q .next s') rfl hs hclos hkind hnames
    (wpAny_mono h (fun xv s₁ h₁ => wpAny_mono h₁ (fun it s₂ h₂ => ?_) fun _ _ e => e) fun _ _ e => e)) (fun _ s' hq => wpAny_pure (wpAny_pure hq)) fun _ _ e => e)
  refine comp_block (RR := fun acc C => compPost (model prog w) A E (some (assign (.Name y py) env)) (fun _ s' => Q .next s') acc C) hcell hkind hx h₂ ?_
  intro D C h tk m' F hDL hD₀ hn hC₀ hCL hCD fin
  show wpAny _ A (assign (.Name y py) env (.ref D)) _ _ _
  refine wpAny_assign_Name (wpAny_storeName_local hy F.ns (fun h₂ hn₂ hs₂ => ?_) hp)
  have hL₀ : h₀.get? env.locals = none := Heap.get?_none_of_le F.above
  have F₂ : Fr h₀ env.locals h₂ (fun z => if z = y then some (.ref D) else m z) := ⟨hn₂, fun b o e => hs₂.extBut b o (fun q => by rw [q, hL₀] at e; cases e) (F.keep b o e), F.above⟩
  refine ⟨m', hn.sameBut hs₂ hCL, fun h'' hs'' => fin h'' _ (F₂.change hs'' hCL hC₀) fun b o hb hbL e => hs''.extBut b o hb (hs₂.extBut b o hbL e)⟩

inductive CompEnd {σ : Type} (h₀ : Heap) (L : Addr) (m : Str → Option Value) (Led : σ → List (Addr × Obj)) (ys : σ → List Value) (J : σ → Prop) (rest : List (Addr × Obj)) (out : List Value) (s₁ s₂ : Shared) : Prop
  | ik (c' : _) (h' : _) (tk' : _) (news' : _)
    (f0 : s₂ = { s₁ with heap := h', toks := tk' })
    (f1 : Fr h₀ L h' m)
    (f2 : News h₀ L h' news')
    (f3 : (∀ p ∈ Led c' ++ rest, p ∈ news'))
    (f4 : (∀ q ∈ Led c', ∀ p ∈ rest, @Ne Nat p.1 q.1))
    (f5 : ys c' = out)
    (f6 : J c') : CompEnd h₀ L m Led ys J rest out s₁ s₂
theorem CompEnd.intro {σ : Type} {Led : σ → List (Addr × Obj)} {ys : σ → List Value} {J : σ → Prop} {rest : List (Addr × Obj)} {out : List Value} {s₁ : Shared} {h' : Heap} {tk' : Nat} {news' : List (Addr × Obj)}
    (c' : σ) (F : Fr h₀ L h' m) (N : News h₀ L h' news') (mem : ∀ p ∈ Led c' ++ rest, p ∈ news') (hy : ys c' = out) (hJ : J c') (sep : ∀ q ∈ Led c', ∀ p ∈ rest, @Ne Nat p.1 q.1) : CompEnd h₀ L m Led ys J rest out s₁ { s₁ with heap := h', toks := tk' } :=
  ⟨c', h', tk', news', rfl, F, N, mem, sep, hy, hJ⟩

theorem comp_of {σ : Type} {I : Addr} {fp : List Addr} {n : Nat} {P : Nat → Value → Prop} {St : Nat → Heap → Prop} {mf : Addr → Str → Option Value} {Fin : Addr → Shared → Prop} (Led : σ → List (Addr × Obj)) (ys : σ → List Value) (J : Nat → σ → Prop) (c₀ : σ) (fix : List (Addr × Obj)) {news : List (Addr × Obj)}
    (W : Walks prog w A I fp [I] n P St) (hsz : n ≤ sizeLine) (hLf : L ∉ fp) (hI₀ : h₀.get? I = none) (hfp : ∀ b ∈ fp, b < s.heap.objs.size) (hst : St 0 s.heap) (hlive : ∀ i h, St i h → ∀ b ∈ fp, ∃ o, h.get? b = some o)
    (F : Fr h₀ L s.heap m) (N : News h₀ L s.heap news) (hin : ∀ p ∈ Led c₀ ++ fix, p ∈ news) (hnI : ∀ p ∈ Led c₀ ++ fix, p.1 ≠ I) (hoff : ∀ q ∈ Led c₀, ∀ p ∈ fix, @Ne Nat p.1 q.1) (hcf : ∀ p ∈ Led c₀, p.1 ∉ fp) (hy0 : ys c₀ = []) (hj : J 0 c₀)
    (turn : ∀ i v c h tk own C oC m₂ E', P i v → i < n → J i c → (ys c).length ≤ i → (C, oC) ∈ own → NsObj oC m₂ → m₂ x = some v → Fr h₀ L h m → News h₀ L h (Led c ++ (fix ++ own)) → (∀ q ∈ Led c, ∀ p ∈ fix ++ own, @Ne Nat p.1 q.1) →
      wpAny (model prog w) A (testsOf ifs (compEnvC scope cl C env)) (fun ok s₃ => if ok = true then wpAny (model prog w) A (eval elt (compEnvC scope cl C env)) (fun y s₄ => CompEnd h₀ L m Led ys (J (i + 1)) (fix ++ own) (ys c ++ [y]) { s with heap := h, toks := tk } s₄) E' s₃
        else CompEnd h₀ L m Led ys (J (i + 1)) (fix ++ own) (ys c) { s with heap := h, toks := tk } s₃) E' { s with heap := h, toks := tk })
    (done : ∀ D c h' tk, J n c → (ys c).length ≤ n → Fr h₀ L h' (mf D) → News h₀ L h' ((D, lst (ys c)) :: (Led c ++ fix)) → (∀ p ∈ Led c ++ fix, @Ne Nat p.1 D) → (∀ q ∈ Led c, ∀ p ∈ fix, @Ne Nat p.1 q.1) → Fin D { s with heap := h', toks := tk }) :
    CompAt prog w A h₀ L m env elt x ifs scope cl mf Fin (.ref I) s := by
  have hIf : I ∈ fp := W.sub I (List.mem_singleton.mpr rfl)
  refine ⟨I, fp, n, P, St, Led c₀ ++ fix, fun i zs nw => ∃ c, nw = Led c ++ fix ∧ zs = ys c ∧ (∀ q ∈ Led c, ∀ p ∈ fix, @Ne Nat p.1 q.1) ∧ (∀ p ∈ Led c, p.1 ∉ fp) ∧ J i c, rfl, W, hsz, hLf, hI₀, hfp, hnI, hst, hlive, F, fun p hp => N p (hin p hp),
    ⟨c₀, rfl, hy0.symm, hoff, hcf, hj⟩, ?_, ?_⟩
  · rintro i v zs nw h₁ tk₁ own bad C oC m₂ E' hi hP hzl ⟨c, rfl, rfl, hof, hcf', hJ⟩ hall hown hbad hlv hnb hCm hoC hxv F₁ N₁
    have hsep : ∀ q ∈ Led c, ∀ p ∈ fix ++ own, @Ne Nat p.1 q.1 := fun q hq p hp => by
      rcases List.mem_append.mp hp with hp | hp
      · exact hof q hq p hp
      · intro e
        have e' : p.1 = q.1 := e
        rcases hown p hp with hpf | hpf
        · exact hcf' q hq (by rw [← e']; exact hpf)
        · exact hnb q (List.mem_append_left _ hq) (by rw [← e']; exact hpf)
    have N₂ : News h₀ L h₁ (Led c ++ (fix ++ own)) := fun p hp => N₁ p (by
      rcases List.mem_append.mp hp with hp | hp
      · exact List.mem_append_right _ (List.mem_append_left _ hp)
      · rcases List.mem_append.mp hp with hp | hp
        · exact List.mem_append_right _ (List.mem_append_right _ hp)
        · exact List.mem_append_left _ hp)
    have key : ∀ out s₃, CompEnd h₀ L m Led ys (J (i + 1)) (fix ++ own) out { s with heap := h₁, toks := tk₁ } s₃ →
        CStep h₀ L m (fun zs nw => ∃ c, nw = Led c ++ fix ∧ zs = ys c ∧ (∀ q ∈ Led c, ∀ p ∈ fix, @Ne Nat p.1 q.1) ∧ (∀ p ∈ Led c, p.1 ∉ fp) ∧ J (i + 1) c) own bad out { s with heap := h₁, toks := tk₁ } s₃ := by
      rintro out s₃ ⟨c', h', tk', news', rfl, F', N', hm, hs, rfl, hJ'⟩
      refine ⟨h', tk', Led c' ++ fix, rfl, F', fun p hp => N' p (hm p ?_), fun p hp hb => ?_, c', rfl, rfl, fun q hq p hp => hs q hq p (List.mem_append_left _ hp), fun p hp hb => ?_, hJ'⟩
      · rcases List.mem_append.mp hp with hp | hp
        · exact List.mem_append_right _ (List.mem_append_right _ hp)
        · rcases List.mem_append.mp hp with hp | hp
          · exact List.mem_append_left _ hp
          · exact List.mem_append_right _ (List.mem_append_left _ hp)
      · rcases List.mem_append.mp hp with hp | hp
        · obtain ⟨o, ho⟩ := hbad p.1 hb
          exact hs p hp (p.1, o) (List.mem_append_right _ ho) rfl
        · exact hnb p (List.mem_append_right _ hp) hb
      · obtain ⟨o, ho⟩ := hlv p.1 hb
        have h0 := (N' p (hm p (List.mem_append_left _ hp))).2.2
        exact hs p hp (p.1, o) (List.mem_append_right _ (hall p.1 hb h0 o ho)) rfl
    refine wpAny_mono (turn i v c h₁ tk₁ own C oC m₂ E' hP hi hJ hzl hCm hoC hxv F₁ N₂ hsep) (fun ok s₃ hq => ?_) fun _ _ e => e
    cases ok with
    | false =>
      simp only [Bool.false_eq_true, if_false] at hq ⊢
      exact key _ _ hq
    | true =>
      simp only [if_true] at hq ⊢
      exact wpAny_mono hq (fun y s₄ hq4 => key _ _ hq4) fun _ _ e => e
  · rintro D h' tk zs nw ⟨c, rfl, rfl, hof, _, hJ⟩ hzl F' N' hD
    exact done D c h' tk hJ hzl F' N' hD hof

theorem comp_list {σ : Type} {l : Addr} {vs : List Value} {mf : Addr → Str → Option Value} {Fin : Addr → Shared → Prop} (Led : σ → List (Addr × Obj)) (ys : σ → List Value) (J : Nat → σ → Prop) (c₀ : σ) (fix : List (Addr × Obj)) {news : List (Addr × Obj)}
    (hh : A.handled = none) (hl : s.heap.IsList l vs.toArray) (hlL : l ≠ L) (hsz : vs.length ≤ sizeLine)
    (F : Fr h₀ L s.heap m) (N : News h₀ L s.heap news) (hin : ∀ p ∈ Led c₀ ++ fix, p ∈ news) (hoff : ∀ q ∈ Led c₀, ∀ p ∈ fix, @Ne Nat p.1 q.1) (hll : ∀ p ∈ Led c₀, @Ne Nat p.1 l) (hy0 : ys c₀ = []) (hj : J 0 c₀)
    (turn : ∀ i v c h tk own C oC m₂ E', vs[i]? = some v → i < vs.length → J i c → (ys c).length ≤ i → (C, oC) ∈ own → NsObj oC m₂ → m₂ x = some v → Fr h₀ L h m → News h₀ L h (Led c ++ (fix ++ own)) → (∀ q ∈ Led c, ∀ p ∈ fix ++ own, @Ne Nat p.1 q.1) →
      wpAny (model prog w) A (testsOf ifs (compEnvC scope cl C env)) (fun ok s₃ => if ok = true then wpAny (model prog w) A (eval elt (compEnvC scope cl C env)) (fun y s₄ => CompEnd h₀ L m Led ys (J (i + 1)) (fix ++ own) (ys c ++ [y]) { s with heap := h, toks := tk } s₄) E' s₃
        else CompEnd h₀ L m Led ys (J (i + 1)) (fix ++ own) (ys c) { s with heap := h, toks := tk } s₃) E' { s with heap := h, toks := tk })
    (done : ∀ D c h' tk, J vs.length c → (ys c).length ≤ vs.length → Fr h₀ L h' (mf D) → News h₀ L h' ((D, lst (ys c)) :: (Led c ++ fix)) → (∀ p ∈ Led c ++ fix, @Ne Nat p.1 D) → (∀ q ∈ Led c, ∀ p ∈ fix, @Ne Nat p.1 q.1) → Fin D { s with heap := h', toks := tk }) :
    wpAny (model prog w) A (pyIter (.ref l)) (fun it s₂ => CompAt prog w A h₀ L m env elt x ifs scope cl mf Fin it s₂) E s := by
  have hlt : l < s.heap.objs.size := by obtain ⟨_, e, _⟩ := hl; exact Heap.lt_size e
  refine wpAny_pyIter_list hl ?_
  have up : ∀ b o, s.heap.get? b = some o → (s.heap.push { cls := .type "list_iterator", data := .fields #[.ref l, .int 0 0] }).get? b = some o := fun b o e => Heap.get?_push_of_some _ e
  have W := Walks.list (prog := prog) (w := w) hh s.heap.objs.size l (Nat.ne_of_lt hlt) vs.toArray
  have hz : vs.toArray.size = vs.length := by simp
  rw [hz] at W
  have hLlt := F.ns.lt
  refine comp_of (s := { s with heap := s.heap.push { cls := .type "list_iterator", data := .fields #[.ref l, .int 0 0] } }) Led ys J c₀ fix W hsz ?_ (next_is_new F) (fun b hb => ?_) ⟨⟨_, Heap.get?_push_size _ rfl, rfl, rfl⟩, hl.push _⟩ ?_ (F.keeps up) (N.grown up) hin
    (fun p hp => Nat.ne_of_lt (Heap.lt_size (N p (hin p hp)).1)) hoff (fun p hp hb => ?_) hy0 hj (fun i v c h tk own C oC m₂ E' hP hi => turn i v c h tk own C oC m₂ E' (by simpa using hP) hi) done
  · intro hb
    rcases List.mem_cons.mp hb with e | hb
    · exact Nat.lt_irrefl _ (e ▸ hLlt)
    · exact hlL (List.mem_singleton.mp hb).symm
  · show b < (s.heap.push _).objs.size
    rw [Heap.size_push]
    rcases List.mem_cons.mp hb with rfl | hb
    · exact Nat.lt_succ_self _
    · rw [List.mem_singleton.mp hb]; exact Nat.lt_succ_of_lt hlt
  · rintro i h ⟨⟨o1, ho1, _⟩, ⟨o2, ho2, _⟩⟩ b hb
    rcases List.mem_cons.mp hb with rfl | hb
    · exact ⟨_, ho1⟩
    · rw [List.mem_singleton.mp hb]; exact ⟨_, ho2⟩
  · rcases List.mem_cons.mp hb with e | hb
    · exact Nat.ne_of_lt (Heap.lt_size (N p (hin p (List.mem_append_left _ hp))).1) e
    · exact hll p hp (List.mem_singleton.mp hb)

theorem comp_range {σ : Type} {r : Addr} {a b : Int} {t u v₀ : Tok} {n : Nat} {mf : Addr → Str → Option Value} {Fin : Addr → Shared → Prop} (Led : σ → List (Addr × Obj)) (ys : σ → List Value) (J : Nat → σ → Prop) (c₀ : σ) (fix : List (Addr × Obj)) {news : List (Addr × Obj)}
    (hh : A.handled = none) (hr : IsRange s.heap r a b 1 t u v₀) (hsm : Builtin.Range.small a b 1 = true) (hn : Builtin.Range.rangeSize a b 1 = ((n : Nat) : Int)) (hsz : n ≤ sizeLine)
    (F : Fr h₀ L s.heap m) (N : News h₀ L s.heap news) (hin : ∀ p ∈ Led c₀ ++ fix, p ∈ news) (hoff : ∀ q ∈ Led c₀, ∀ p ∈ fix, @Ne Nat p.1 q.1) (hy0 : ys c₀ = []) (hj : J 0 c₀)
    (turn : ∀ i t c h tk own C oC m₂ E', i < n → J i c → (ys c).length ≤ i → (C, oC) ∈ own → NsObj oC m₂ → m₂ x = some (.int (a + (i : Nat)) t) → Fr h₀ L h m → News h₀ L h (Led c ++ (fix ++ own)) → (∀ q ∈ Led c, ∀ p ∈ fix ++ own, @Ne Nat p.1 q.1) →
      wpAny (model prog w) A (testsOf ifs (compEnvC scope cl C env)) (fun ok s₃ => if ok = true then wpAny (model prog w) A (eval elt (compEnvC scope cl C env)) (fun y s₄ => CompEnd h₀ L m Led ys (J (i + 1)) (fix ++ own) (ys c ++ [y]) { s with heap := h, toks := tk } s₄) E' s₃
        else CompEnd h₀ L m Led ys (J (i + 1)) (fix ++ own) (ys c) { s with heap := h, toks := tk } s₃) E' { s with heap := h, toks := tk })
    (done : ∀ D c h' tk, J n c → (ys c).length ≤ n → Fr h₀ L h' (mf D) → News h₀ L h' ((D, lst (ys c)) :: (Led c ++ fix)) → (∀ p ∈ Led c ++ fix, @Ne Nat p.1 D) → (∀ q ∈ Led c, ∀ p ∈ fix, @Ne Nat p.1 q.1) → Fin D { s with heap := h', toks := tk }) :
    wpAny (model prog w) A (pyIter (.ref r)) (fun it s₂ => CompAt prog w A h₀ L m env elt x ifs scope cl mf Fin it s₂) E s := by
  refine wpAny_pyIter_range hr hsm ?_
  have W := LCg.range_walks (prog := prog) (w := w) (I := s.heap.objs.size) hh a n
  have hLlt := F.ns.lt
  refine comp_of Led ys J c₀ fix W hsz ?_ (next_is_new F) (fun b hb => ?_) (by show IsRangeIter _ _ _ _ _; rw [hn]; simpa using Heap.get?_push_size _ rfl) ?_ (F.keeps fun _ _ e => Heap.get?_push_of_some _ e) (N.grown fun _ _ e => Heap.get?_push_of_some _ e) hin
    (fun p hp => Nat.ne_of_lt (Heap.lt_size (N p (hin p hp)).1)) hoff (fun p hp hb => ?_) hy0 hj (fun i v c h tk own C oC m₂ E' hP hi hJ hy hm hC hx F N hs => ?_) done
  · intro hb
    exact Nat.lt_irrefl _ ((List.mem_singleton.mp hb : L = _) ▸ hLlt)
  · rw [List.mem_singleton.mp hb]
    show s.heap.objs.size < (s.heap.push _).objs.size
    rw [Heap.size_push]; exact Nat.lt_succ_self _
  · intro i h st b hb
    rw [List.mem_singleton.mp hb]; exact ⟨_, st⟩
  · exact Nat.ne_of_lt (Heap.lt_size (N p (hin p (List.mem_append_left _ hp))).1) (List.mem_singleton.mp hb)
  · obtain ⟨t, rfl⟩ := hP
    exact turn i t c h tk own C oC m₂ E' hi hJ hy hm hC hx F N hs
end
end Mine
namespace Mine
noncomputable abbrev tupOf (a : Array Value) : Obj := { cls := .type "tuple", data := .seq a }
inductive TupRes (h h' : Heap) (v : Value) (ns : List Nat) : Prop
  | ik (t : _) (vs : _)
    (f0 : v = .ref t)
    (f1 : h'.get? t = some (tupOf (List.toArray vs)))
    (f2 : NV vs ns)
    (f3 : h.get? t = none)
    (f4 : ns.length < 4096) : TupRes h h' v ns
section
variable {prog : Program} {w : World} {K : Frag} {A₀ : Around} {base g : Heap} {outer : List Env} {p : Program} {loose : List Str} {mean : ExcName → Option Value} {mg mb : Str → Option Value} {d u : Nat} {gd : Option (List Code)} {L : Addr} {m : Str → Option Value} {env : Env}
  {f : Addr} {vals : List Value} {n k : Nat} {pre : Heap → Prop} {s : Shared} {Q E : Value → Shared → Prop} {news : List (Addr × Obj)} {ns : List Nat}
theorem ro_useT (S : RO prog w K f vals n pre (fun h h' v => TupRes h h' v ns)) (B : Below A₀ base outer g) (X : K.In g) (T : Top p loose mean mg mb g) (F : Fr g L s.heap m) (N : News g L s.heap news) (hd : d + n < recursionLimit) (hu : u + 8 * n + 200 < cLine)
    (hp : pre s.heap)
    (h : ∀ (h' : Heap) (tk' : Nat) (l : Addr) (vs : List Value), Fr g L h' m → News g L h' ((l, tupOf vs.toArray) :: news) → (∀ p ∈ news, @Ne Nat p.1 l) → NV vs ns → vs.length < 4096 → s.heap.StaysIn h' → Q (.ref l) { s with heap := h', toks := tk' })
    (hf : env.frame = some L) (hk : env.scope.kind = .function) :
    wpAny (model prog w) (arnd d env outer gd u) (call (.ref f) vals) Q E s :=
  ro_use S B X T F N hd hu hp (fun h' tk' r F' N' st ⟨l, vs, e, hl, hv, hn, hz⟩ => by
    subst e
    exact h h' tk' l vs F' (news_in F N' st hl hn) (fun p hp e => by have q := (N p hp).1; rw [e, hn] at q; cases q) hv (by rw [hv.len]; exact hz) st) hf hk
theorem tupRes_of {h h' : Heap} {L l : Addr} {vs : List Value} {news : List (Addr × Obj)} (N : News h L h' news) (hm : (l, tupOf vs.toArray) ∈ news) (hv : NV vs ns) (hz : ns.length < 4096) : TupRes h h' (.ref l) ns :=
  ⟨l, vs, rfl, (N _ hm).1, hv, (N _ hm).2.2, hz⟩
end
section
variable {prog : Program} {w : World} {A : Around} {E : Value → Shared → Prop} {s : Shared} {h₀ : Heap} {L D : Addr} {m : Str → Option Value} {news news' : List (Addr × Obj)} {n : Nat} {vs ws : List Value} {ns ms : List Nat}
theorem tup_get {h : Heap} {t : Addr} {its : Array Value} (e : h.get? t = some (tupOf its)) : IsTup h t its := ⟨_, e, rfl, _, rfl⟩
theorem catT_r {a b : Addr} {Q : Value → Shared → Prop} (F : Fr h₀ L s.heap m) (N : News h₀ L s.heap news) (ha : s.heap.get? a = some (tupOf vs.toArray)) (hb : s.heap.get? b = some (tupOf ws.toArray)) (hi : NV vs ns) (hj : NV ws ms) (h0 : ns ≠ []) (h1 : ms ≠ []) (hz : ns.length + ms.length < 2 ^ 12)
    (h : ∀ D h', Fr h₀ L h' m → News h₀ L h' ((D, tupOf (vs ++ ws).toArray) :: news) → (∀ p ∈ news, p.1 < D) → NV (vs ++ ws) (ns ++ ms) → Q (.ref D) { s with heap := h' }) :
    wpAny (model prog w) A (binaryOp .Add (.ref a) (.ref b)) Q E s :=
  kde_addT (zs := vs ++ ws) F N (tup_get ha) (tup_get hb) (fun e => h0 (List.eq_nil_of_length_eq_zero (by rw [← hi.len]; simpa using e))) (fun e => h1 (List.eq_nil_of_length_eq_zero (by rw [← hj.len]; simpa using e)))
    (by have := hi.len; have := hj.len; simp only [List.length_nil] at *; (try simp); omega) rfl (fun D h' F' N' l => h D h' F' N' l (hi.app hj))
theorem NV.head {n : Nat} {r : List Nat} (h : NV vs (n :: r)) : ∃ t vs', vs = .int n t :: vs' ∧ NV vs' r := by
  cases h with | cons _ t r => exact ⟨t, _, rfl, r⟩
end
end Mine
namespace Mine
section
variable {prog : Program} {w : World} {A : Around} {E : Value → Shared → Prop} {s : Shared} {h₀ : Heap} {L D : Addr} {m : Str → Option Value} {news news' : List (Addr × Obj)} {n : Nat} {vs ws : List Value} {ns ms : List Nat}
theorem item_nv {value slice : PySem.Expr} {l : Addr} {k n : Nat} {kk : Int} {u : Tok} {Q : Value → Shared → Prop} (hl : s.heap.IsList l vs.toArray) (hv : NV vs ns) (hn : ns[k]? = some n) (hk : kk = (k : Int)) (hfit : ns.length < 2 ^ 20) (h : ∀ t, Q (.int (n : Nat) t) s)
    (hs : subscripted slice false (.ref l) (.int kk u) = operate [.ref l, .int kk u] (getItem (.ref l) (.int kk u)) := by with_unfolding_all rfl) :
    wpAny (model prog w) A (subscriptTail value slice (.ref l) (.int kk u)) Q E s := by
  obtain ⟨t, ht⟩ := hv.get' hn
  subst hk
  exact item_at hl ht (by have := (List.getElem?_eq_some_iff.mp hn).1; omega) (h t) hs
theorem item_lit {value slice : PySem.Expr} {l : Addr} {k : Nat} {kk : Int} {u : Tok} {v : Value} {Q : Value → Shared → Prop} (hl : s.heap.IsList l vs.toArray) (hx : vs[k]? = some v) (hk : kk = (k : Int)) (hfit : k < 2 ^ 24) (h : Q v s)
    (hs : subscripted slice false (.ref l) (.int kk u) = operate [.ref l, .int kk u] (getItem (.ref l) (.int kk u)) := by with_unfolding_all rfl) :
    wpAny (model prog w) A (subscriptTail value slice (.ref l) (.int kk u)) Q E s := by
  subst hk
  exact item_at hl hx hfit h hs
theorem dropL_r {l : Addr} {k : Nat} {kk : Int} {t : Tok} {value slice : PySem.Expr} {Q : Value → Shared → Prop} (F : Fr h₀ L s.heap m) (N : News h₀ L s.heap news) (hl : s.heap.IsList l vs.toArray)
    (hz : vs.length < 2 ^ 20) (hk : kk = (k : Int))
    (h : ∀ D h', Fr h₀ L h' m → News h₀ L h' ((D, listOf (vs.drop k).toArray 0) :: news) → (∀ p ∈ news, p.1 < D) → Q (.ref D) { s with heap := h' })
    (hs : subscripted slice false (.ref l) (.ref s.heap.objs.size) = operate [.ref s.heap.objs.size, .ref l] (getItem (.ref l) (.ref s.heap.objs.size))) (ht : ∀ r, letTemporaryGo value (.ref l) r = pure ()) :
    wpAny (model prog w) A (subscriptTail value slice (.ref l) (.ref s.heap.objs.size)) Q E { s with heap := s.heap.push { cls := .type "slice", data := .fields #[.int kk t, .none, .none] } } := by
  subst hk; exact drop_r F N hl hz h hs ht
theorem takeL_r {l : Addr} {k : Nat} {kk : Int} {t : Tok} {value slice : PySem.Expr} {Q : Value → Shared → Prop} (F : Fr h₀ L s.heap m) (N : News h₀ L s.heap news) (hl : s.heap.IsList l vs.toArray)
    (hz : vs.length < 2 ^ 20) (hk : kk = (k : Int))
    (h : ∀ D h', Fr h₀ L h' m → News h₀ L h' ((D, listOf (vs.take k).toArray 0) :: news) → (∀ p ∈ news, p.1 < D) → Q (.ref D) { s with heap := h' })
    (hs : subscripted slice false (.ref l) (.ref s.heap.objs.size) = operate [.ref s.heap.objs.size, .ref l] (getItem (.ref l) (.ref s.heap.objs.size))) (ht : ∀ r, letTemporaryGo value (.ref l) r = pure ()) :
    wpAny (model prog w) A (subscriptTail value slice (.ref l) (.ref s.heap.objs.size)) Q E { s with heap := s.heap.push { cls := .type "slice", data := .fields #[.none, .int kk t, .none] } } := by
  subst hk; exact take_r F N hl hz h hs ht
end
end Mine
namespace Mine
theorem kids_desc {T : List NRow} (W : WF T) {n p c : Nat} (hp : p ∈ desc T n) (hc : c ∈ kids T p) : c ∈ desc T n := by
  have key : ∀ k n, T.length - n ≤ k → p ∈ desc T n → c ∈ desc T n := by
    intro k
    induction k with
    | zero => intro n hk hp; have := desc_mem W n p hp; omega
    | succ k ih =>
      intro n hk hp
      rw [desc_eq W] at hp ⊢
      obtain ⟨a, ha, hx⟩ := List.mem_flatMap.mp hp
      refine List.mem_flatMap.mpr ⟨a, ha, ?_⟩
      have h1 := kids_lt W ha
      rcases List.mem_cons.mp hx with rfl | hx
      · refine List.mem_cons_of_mem _ ?_
        rw [desc_eq W]
        exact List.mem_flatMap.mpr ⟨c, hc, List.mem_cons_self⟩
      · exact List.mem_cons_of_mem _ (ih a (by omega) hx)
  exact key _ n (Nat.le_refl _) hp
theorem kids_sub_desc {T : List NRow} (W : WF T) {n c : Nat} (hc : c ∈ kids T n) : c ∈ desc T n := by
  rw [desc_eq W]; exact List.mem_flatMap.mpr ⟨c, hc, List.mem_cons_self⟩
theorem desc_plain {T : List NRow} (W : WF T) {n x : Nat} (h : x ∈ desc T n) : beside T x = false := by
  obtain ⟨p, e1, e2, _⟩ := desc_par W n x h
  have hk := W.kid p x e2
  cases hb : beside T x with
  | false => rfl
  | true => rcases beside_iff.mp hb with h1 | h1; exact absurd h1 hk.2.2.2.1; exact absurd h1 hk.2.2.2.2.1
theorem desc_anc {T : List NRow} (W : WF T) {n : Nat} : ∀ x, beside T x = false → (x ∈ desc T n ↔ n ∈ anc T x) := by
  intro x
  induction x using Nat.strongRecOn with
  | _ x ih =>
    intro hb
    constructor
    · intro h
      obtain ⟨p, e1, e2, e3⟩ := desc_par W n x h
      rw [anc_some W e1]
      rcases e3 with rfl | e3
      · exact List.mem_cons_self
      · exact List.mem_cons_of_mem _ ((ih p (par_lt W e1) (beside_up W e1)).mp e3)
    · intro h
      cases hp : par T x with
      | none => rw [anc_none hp] at h; cases h
      | some p =>
        rw [anc_some W hp] at h
        have hk := mem_kids W hp hb
        rcases List.mem_cons.mp h with rfl | h
        · exact kids_sub_desc W hk
        · exact kids_desc W ((ih p (par_lt W hp) (beside_up W hp)).mpr h) hk
theorem kid_par {T : List NRow} (W : WF T) {n x : Nat} (hb : beside T x = false) : x ∈ kids T n ↔ par T x = some n :=
  ⟨fun h => (W.kid n x h).2.2.1, fun h => mem_kids W h hb⟩
theorem idxOf_app_mem : ∀ {X Z : List Nat} {a : Nat}, a ∈ X → (X ++ Z).idxOf a = X.idxOf a
  | [], _, _, h => by cases h
  | b :: X, Z, a, h => by
    rw [List.cons_append, List.idxOf_cons, List.idxOf_cons]
    by_cases e : b = a
    · subst e; simp
    · have q : (b == a) = false := by simp [e]
      rw [q]
      have : a ∈ X := by rcases List.mem_cons.mp h with h | h; exact absurd h.symm e; exact h
      rw [idxOf_app_mem this]
theorem idxOf_app_not : ∀ {X Z : List Nat} {a : Nat}, a ∉ X → (X ++ Z).idxOf a = X.length + Z.idxOf a
  | [], _, _, _ => by simp
  | b :: X, Z, a, h => by
    rw [List.cons_append, List.idxOf_cons]
    have e : ¬ b = a := fun e => h (by rw [e]; exact List.mem_cons_self)
    have q : (b == a) = false := by simp [e]
    rw [q]
    have := idxOf_app_not (Z := Z) (fun hx => h (List.mem_cons_of_mem _ hx) : a ∉ X)
    rw [this, List.length_cons]
    show X.length + Z.idxOf a + 1 = _
    omega
theorem idx_split {l X Y : List Nat} {a : Nat} (h : l = X ++ a :: Y) (hn : l.Nodup) : l.idxOf a = X.length := by
  subst h
  have : a ∉ X := by
    intro hx
    rw [List.nodup_append] at hn
    exact hn.2.2 a hx a List.mem_cons_self rfl
  rw [idxOf_app_not this]; simp
theorem mem_ahead_iff {l X Y : List Nat} {a x : Nat} (h : l = X ++ a :: Y) (hn : l.Nodup) (hx : x ∈ l) : x ∈ X ↔ l.idxOf x < l.idxOf a := by
  rw [idx_split h hn]
  subst h
  constructor
  · intro hX
    rw [idxOf_app_mem hX]; exact List.idxOf_lt_length_of_mem hX
  · intro hlt
    refine Classical.byContradiction fun hX => ?_
    rw [idxOf_app_not hX] at hlt
    omega
theorem mem_behind_iff {l X Y : List Nat} {a x : Nat} (h : l = X ++ a :: Y) (hn : l.Nodup) (hx : x ∈ l) : x ∈ Y ↔ l.idxOf a < l.idxOf x := by
  have h1 := mem_ahead_iff h hn hx
  have hid := idx_split h hn
  constructor
  · intro hY
    have hX : x ∉ X := by
      intro hX
      rw [h, List.nodup_append] at hn
      exact hn.2.2 x hX x (List.mem_cons_of_mem _ hY) rfl
    have hne : x ≠ a := by
      intro e
      rw [h, List.nodup_append] at hn
      exact (List.nodup_cons.mp hn.2.1).1 (e ▸ hY)
    have : l.idxOf x ≠ l.idxOf a := by
      intro e
      have p1 := List.getElem_idxOf (List.idxOf_lt_length_of_mem hx)
      have ha : a ∈ l := by rw [h]; simp
      have p2 := List.getElem_idxOf (List.idxOf_lt_length_of_mem ha)
      apply hne
      rw [← p1, ← p2]
      congr 1
    have := mt h1.mpr hX
    omega
  · intro hlt
    have hX : x ∉ X := fun hX => by have := h1.mp hX; omega
    have hne : x ≠ a := fun e => by rw [e] at hlt; omega
    rw [h] at hx
    rcases List.mem_append.mp hx with hx | hx
    · exact absurd hx hX
    · rcases List.mem_cons.mp hx with hx | hx
      · exact absurd hx hne
      · exact hx
section
variable {T : List NRow} {r : Nat}
noncomputable def doc (T : List NRow) (r : Nat) : List Nat := r :: desc T r
theorem doc_top (W : WF T) (hr : par T r = none) {n : Nat} (hn : n ∈ doc T r) : topOf T n = r := by
  induction n using Nat.strongRecOn with
  | _ n ih =>
    rcases List.mem_cons.mp hn with rfl | hn
    · exact topOf_none hr
    · obtain ⟨p, e1, e2, e3⟩ := desc_par W r n hn
      rw [topOf_some W e1]
      refine ih p (par_lt W e1) ?_
      rcases e3 with rfl | e3
      · exact List.mem_cons_self
      · exact List.mem_cons_of_mem _ e3
theorem doc_plain (W : WF T) (hr : beside T r = false) {n : Nat} (hn : n ∈ doc T r) : beside T n = false := by
  rcases List.mem_cons.mp hn with rfl | hn
  · exact hr
  · exact desc_plain W hn
theorem doc_at (W : WF T) (hr : par T r = none) (hb : beside T r = false) {n : Nat} (hn : n ∈ doc T r) : doc T r = ahead T n ++ n :: (desc T n ++ follFrom T n) := by
  have h := doc_split W n (doc_plain W hb hn)
  rw [doc_top W hr hn] at h
  show r :: desc T r = _
  rw [h]; simp
theorem foll_prec (W : WF T) (hr : par T r = none) (hb : beside T r = false) {n x : Nat} (hn : n ∈ doc T r) (hx : x ∈ doc T r) : x ∈ follFrom T n ↔ n ∈ precFrom T x := by
  have hnd : (doc T r).Nodup := doc_nodup W r
  have en := doc_at W hr hb hn
  have ex := doc_at W hr hb hx
  have bn := doc_plain W hb hn
  have bx := doc_plain W hb hx
  have px := ahead_perm W x bx
  have hda := desc_anc W (n := n) x bx
  have nd : (desc T n ++ follFrom T n).Nodup := by
    have h1 := hnd
    rw [en, List.nodup_append] at h1
    exact (List.nodup_cons.mp h1.2.1).2
  have na : (anc T x ++ precFrom T x).Nodup := by
    have h1 := hnd
    rw [ex, List.nodup_append] at h1
    exact (px.nodup_iff).mp h1.1
  constructor
  · intro hF
    have h1 := (mem_behind_iff en hnd hx).mp (List.mem_append_right _ hF)
    have h2 := (mem_ahead_iff ex hnd hn).mpr h1
    rcases List.mem_append.mp (px.mem_iff.mp h2) with h3 | h3
    · exact absurd rfl ((List.nodup_append.mp nd).2.2 x (hda.mpr h3) x hF)
    · exact h3
  · intro hP
    have h2 : n ∈ ahead T x := px.mem_iff.mpr (List.mem_append_right _ hP)
    have h1 := (mem_ahead_iff ex hnd hn).mp h2
    rcases List.mem_append.mp ((mem_behind_iff en hnd hx).mpr h1) with h3 | h3
    · exact absurd rfl ((List.nodup_append.mp na).2.2 n (hda.mp h3) n hP)
    · exact h3
theorem parted (W : WF T) (hr : par T r = none) (hb : beside T r = false) {n : Nat} (hn : n ∈ doc T r) : ([n] ++ anc T n ++ desc T n ++ follFrom T n ++ precFrom T n).Perm (doc T r) := by
  rw [doc_at W hr hb hn]
  have h := ahead_perm W n (doc_plain W hb hn)
  refine List.Perm.symm ?_
  refine (h.append_right _).trans ?_
  -- anc ++ prec ++ n :: (desc ++ foll) ~ [n] ++ anc ++ desc ++ foll ++ prec
  refine List.perm_middle.trans ?_
  simp only [List.append_assoc, List.cons_append, List.nil_append]
  refine List.Perm.cons n ?_
  refine List.Perm.append_left _ ?_
  exact List.perm_append_comm.trans (by rw [List.append_assoc])
end
theorem sib_iff {T : List NRow} (W : WF T) {n x : Nat} (bn : beside T n = false) (bx : beside T x = false) : (x ∈ sibB T n ↔ n ∈ sibA T x) := by
  constructor
  · intro h
    cases hp : par T n with
    | none => rw [sibB_top hp] at h; cases h
    | some p =>
      rw [sibB_plain hp bn] at h
      have hx : x ∈ kids T p := List.mem_of_mem_drop h
      have hpx := (W.kid p x hx).2.2.1
      rw [sibA_plain hpx bx, List.mem_reverse]
      have hk := mem_kids W hp bn
      have hkx := take_idx_drop hx
      have hkn := take_idx_drop hk
      have := (mem_behind_iff hkn (W.kidN p) hx).mp h
      exact (mem_ahead_iff hkx (W.kidN p) hk).mpr this
  · intro h
    cases hp : par T x with
    | none => rw [sibA_top hp] at h; cases h
    | some p =>
      rw [sibA_plain hp bx, List.mem_reverse] at h
      have hn : n ∈ kids T p := List.mem_of_mem_take h
      have hpn := (W.kid p n hn).2.2.1
      rw [sibB_plain hpn bn]
      have hk := mem_kids W hp bx
      have hkx := take_idx_drop hk
      have hkn := take_idx_drop hn
      have := (mem_ahead_iff hkx (W.kidN p) hn).mp h
      exact (mem_behind_iff hkn (W.kidN p) hk).mpr this
theorem sib_not {T : List NRow} (W : WF T) {n x : Nat} (bn : beside T n = false) : ¬ (x ∈ sibB T n ∧ x ∈ sibA T n) := by
  rintro ⟨h1, h2⟩
  cases hp : par T n with
  | none => rw [sibB_top hp] at h1; cases h1
  | some p =>
    rw [sibB_plain hp bn] at h1
    rw [sibA_plain hp bn, List.mem_reverse] at h2
    have hx : x ∈ kids T p := List.mem_of_mem_drop h1
    have hkn := take_idx_drop (mem_kids W hp bn)
    have a1 := (mem_behind_iff hkn (W.kidN p) hx).mp h1
    have a2 := (mem_ahead_iff hkn (W.kidN p) hx).mp h2
    omega
end Mine
namespace Mine
noncomputable def walkedF (T : List NRow) : Nat → Nat → List Nat
  | 0, i => [i]
  | f + 1, i => [i] ++ nsps T i ++ atts T i ++ (kids T i).flatMap (walkedF T f)
noncomputable def walked (T : List NRow) (i : Nat) : List Nat := walkedF T T.length i
theorem walkedF_eq {T : List NRow} (W : WF T) : ∀ f g i, T.length - i ≤ f → T.length - i ≤ g → walkedF T f i = walkedF T g i := by
  intro f
  induction f with
  | zero =>
    intro g i hf hg
    cases g with
    | zero => rfl
    | succ g =>
      have h0 : T[i]? = none := List.getElem?_eq_none (by omega)
      simp [walkedF, kids, nsps, atts, h0]
  | succ f ih =>
    intro g i hf hg
    cases g with
    | zero =>
      have h0 : T[i]? = none := List.getElem?_eq_none (by omega)
      simp [walkedF, kids, nsps, atts, h0]
    | succ g =>
      simp only [walkedF]
      congr 1
      rw [List.flatMap_def, List.flatMap_def]
      congr 1
      apply List.map_congr_left
      intro c hc
      have := kids_lt W hc
      rw [ih g c (by omega) (by omega)]
theorem walked_eq {T : List NRow} (W : WF T) (i : Nat) : walked T i = [i] ++ nsps T i ++ atts T i ++ (kids T i).flatMap (walked T) := by
  show walkedF T T.length i = _
  rw [walkedF_eq W T.length (T.length + 1) i (by omega) (by omega)]
  rfl
theorem walked_self {T : List NRow} (W : WF T) (i : Nat) : i ∈ walked T i := by rw [walked_eq W]; simp
noncomputable def hung (T : List NRow) (p x : Nat) : Prop := x ∈ nsps T p ∨ x ∈ atts T p ∨ x ∈ kids T p
theorem hung_par {T : List NRow} (W : WF T) {p x : Nat} (h : hung T p x) : par T x = some p ∧ p < x ∧ x < T.length := by
  rcases h with h | h | h
  · exact ⟨(W.nsp p x h).2.2.1, (W.nsp p x h).1, (W.nsp p x h).2.1⟩
  · exact ⟨(W.att p x h).2.2.1, (W.att p x h).1, (W.att p x h).2.1⟩
  · exact ⟨(W.kid p x h).2.2.1, (W.kid p x h).1, (W.kid p x h).2.1⟩
theorem par_hung {T : List NRow} (W : WF T) {p x : Nat} (h : par T x = some p) : hung T p x := by
  have h3 := (W.up x p h).2.2
  by_cases e1 : kindOf T x = sAttr
  · rw [if_pos e1] at h3; exact .inr (.inl h3)
  · rw [if_neg e1] at h3
    by_cases e2 : kindOf T x = sNs
    · rw [if_pos e2] at h3; exact .inl h3
    · rw [if_neg e2] at h3; exact .inr (.inr h3)
theorem walked_hung {T : List NRow} (W : WF T) {r p x : Nat} (hp : p ∈ walked T r) (hx : hung T p x) : x ∈ walked T r := by
  have key : ∀ k r, T.length - r ≤ k → p ∈ walked T r → x ∈ walked T r := by
    intro k
    induction k with
    | zero =>
      intro r hk hp
      have h0 : T[r]? = none := List.getElem?_eq_none (by omega)
      rw [walked_eq W] at hp
      simp [kids, nsps, atts, h0] at hp
      subst hp
      have := hung_par W hx; omega
    | succ k ih =>
      intro r hk hp
      have own : hung T r x → x ∈ walked T r := by
        intro h
        rw [walked_eq W]
        rcases h with h | h | h
        · simp [h]
        · simp [h]
        · simp only [List.mem_append]
          exact .inr (List.mem_flatMap.mpr ⟨x, h, walked_self W x⟩)
      rw [walked_eq W] at hp
      simp only [List.mem_append, List.mem_singleton] at hp
      rcases hp with ((hp | hp) | hp) | hp
      · subst hp; exact own hx
      · -- p is a namespace: nothing hangs on it
        exfalso
        have hk := (W.nsp r p hp).2.2.2
        have h1 := (W.up x p (hung_par W hx).1).2.1
        rcases h1 with h1 | h1 <;> (rw [hk] at h1; exact absurd h1 (by decide))
      · exfalso
        have hk := (W.att r p hp).2.2.2
        have h1 := (W.up x p (hung_par W hx).1).2.1
        rcases h1 with h1 | h1 <;> (rw [hk] at h1; exact absurd h1 (by decide))
      · obtain ⟨c, hc, hp⟩ := List.mem_flatMap.mp hp
        have h1 := kids_lt W hc
        have := ih c (by omega) hp
        rw [walked_eq W]
        simp only [List.mem_append]
        exact .inr (List.mem_flatMap.mpr ⟨c, hc, this⟩)
  exact key _ r (Nat.le_refl _) hp
theorem walked_mem {T : List NRow} (W : WF T) {r : Nat} (hr : r < T.length) : ∀ x, x ∈ walked T r → r ≤ x ∧ x < T.length := by
  have key : ∀ k r, r < T.length → T.length - r ≤ k → ∀ x ∈ walked T r, r ≤ x ∧ x < T.length := by
    intro k
    induction k with
    | zero => intro r hr hk; omega
    | succ k ih =>
      intro r hr hk x hx
      rw [walked_eq W] at hx
      simp only [List.mem_append, List.mem_singleton] at hx
      rcases hx with ((hx | hx) | hx) | hx
      · omega
      · have := W.nsp r x hx; omega
      · have := W.att r x hx; omega
      · obtain ⟨c, hc, hx⟩ := List.mem_flatMap.mp hx
        have h1 := kids_lt W hc
        have := ih c h1.2 (by omega) x hx
        omega
  exact key _ r hr (Nat.le_refl _)
theorem walked_top {T : List NRow} (W : WF T) {r : Nat} (hr : r < T.length) (hp : par T r = none) (x : Nat) : x ∈ walked T r ↔ x < T.length ∧ topOf T x = r := by
  constructor
  · intro hx
    refine ⟨(walked_mem W hr x hx).2, ?_⟩
    have key : ∀ k i, i < T.length → T.length - i ≤ k → ∀ x ∈ walked T i, topOf T x = topOf T i := by
      intro k
      induction k with
      | zero => intro i hi hk; omega
      | succ k ih =>
        intro i hi hk x hx
        rw [walked_eq W] at hx
        simp only [List.mem_append, List.mem_singleton] at hx
        rcases hx with ((hx | hx) | hx) | hx
        · rw [hx]
        · exact topOf_some W (W.nsp i x hx).2.2.1
        · exact topOf_some W (W.att i x hx).2.2.1
        · obtain ⟨c, hc, hx⟩ := List.mem_flatMap.mp hx
          have h1 := kids_lt W hc
          rw [ih c h1.2 (by omega) x hx]
          exact topOf_some W (W.kid i c hc).2.2.1
    rw [key _ r hr (Nat.le_refl _) x hx, topOf_none hp]
  · induction x using Nat.strongRecOn with
    | _ x ih =>
      rintro ⟨hx, ht⟩
      cases hq : par T x with
      | none => rw [topOf_none hq] at ht; rw [ht]; exact walked_self W r
      | some p =>
        have h1 := par_lt W hq
        rw [topOf_some W hq] at ht
        exact walked_hung W (ih p h1 ⟨by omega, ht⟩) (par_hung W hq)

noncomputable def slot (T : List NRow) (p i : Nat) : List Nat :=
  if kindOf T i = sNs then [0, (nsps T p).idxOf i] else if kindOf T i = sAttr then [1, (atts T p).idxOf i] else [2, (kids T p).idxOf i]
noncomputable def placeF (T : List NRow) : Nat → Nat → List Nat
  | 0, i => [i]
  | f + 1, i => match par T i with
    | none => [i]
    | some p => placeF T f p ++ slot T p i
noncomputable def place (T : List NRow) (i : Nat) : List Nat := placeF T (i + 1) i
theorem placeF_eq {T : List NRow} (W : WF T) : ∀ f g i, i < f → i < g → placeF T f i = placeF T g i := by
  intro f
  induction f with
  | zero => intro g i h; omega
  | succ f ih =>
    intro g i hf hg
    cases g with
    | zero => omega
    | succ g =>
      simp only [placeF]
      cases hp : par T i with
      | none => rfl
      | some p =>
        have := par_lt W hp
        simp only
        rw [ih g p (by omega) (by omega)]
theorem place_none {T : List NRow} {i : Nat} (h : par T i = none) : place T i = [i] := by unfold place; simp only [placeF, h]
theorem place_some {T : List NRow} (W : WF T) {i p : Nat} (h : par T i = some p) : place T i = place T p ++ slot T p i := by
  have := par_lt W h
  show placeF T (i + 1) i = placeF T (p + 1) p ++ slot T p i
  simp only [placeF, h]
  rw [placeF_eq W i (p + 1) p (by omega) (by omega)]
  simp only [placeF]
noncomputable def lexLt : List Nat → List Nat → Bool
  | [], [] => false
  | [], _ :: _ => true
  | _ :: _, [] => false
  | a :: as, b :: bs => if a = b then lexLt as bs else decide (a < b)
theorem lex_app (p a b : List Nat) : lexLt (p ++ a) (p ++ b) = lexLt a b := by
  induction p with
  | nil => rfl
  | cons x p ih => simp only [List.cons_append, lexLt, if_true, ih]
theorem lex_irrefl (a : List Nat) : lexLt a a = false := by
  induction a with
  | nil => rfl
  | cons x a ih => simp only [lexLt, if_true, ih]
theorem lex_asymm : ∀ {a b : List Nat}, lexLt a b = true → lexLt b a = true → False
  | [], [], h, _ => by cases h
  | [], _ :: _, _, h => by cases h
  | _ :: _, [], h, _ => by cases h
  | a :: as, b :: bs, h1, h2 => by
    simp only [lexLt] at h1 h2
    by_cases e : a = b
    · rw [if_pos e] at h1; rw [if_pos e.symm] at h2; exact lex_asymm h1 h2
    · rw [if_neg e] at h1; rw [if_neg (Ne.symm e)] at h2
      simp only [decide_eq_true_eq] at h1 h2; omega
theorem slot_ns {T : List NRow} (W : WF T) {p x : Nat} (h : x ∈ nsps T p) : slot T p x = [0, (nsps T p).idxOf x] := by
  unfold slot; rw [if_pos (W.nsp p x h).2.2.2]
theorem slot_att {T : List NRow} (W : WF T) {p x : Nat} (h : x ∈ atts T p) : slot T p x = [1, (atts T p).idxOf x] := by
  unfold slot
  have e := (W.att p x h).2.2.2
  rw [if_neg (by rw [e]; decide), if_pos e]
theorem slot_kid {T : List NRow} (W : WF T) {p x : Nat} (h : x ∈ kids T p) : slot T p x = [2, (kids T p).idxOf x] := by
  unfold slot
  have e := W.kid p x h
  rw [if_neg e.2.2.2.2.1, if_neg e.2.2.2.1]
theorem pairwise_flatMap_of {α β : Type} {S : α → α → Prop} {R : β → β → Prop} {f : α → List β} : ∀ {l : List α}, l.Pairwise S → (∀ a ∈ l, (f a).Pairwise R) → (∀ a ∈ l, ∀ b ∈ l, S a b → ∀ x ∈ f a, ∀ y ∈ f b, R x y) → (l.flatMap f).Pairwise R
  | [], _, _, _ => by simp
  | a :: l, h, h1, h2 => by
    rw [List.flatMap_cons, List.pairwise_append]
    have hc := List.pairwise_cons.mp h
    refine ⟨h1 a (.head _), pairwise_flatMap_of hc.2 (fun b hb => h1 b (.tail _ hb)) (fun b hb c hc => h2 b (.tail _ hb) c (.tail _ hc)), ?_⟩
    intro x hx y hy
    obtain ⟨b, hb, hyb⟩ := List.mem_flatMap.mp hy
    exact h2 a (.head _) b (.tail _ hb) (hc.1 b hb) x hx y hyb
theorem idx_pairwise {l : List Nat} (hn : l.Nodup) : l.Pairwise fun a b => l.idxOf a < l.idxOf b := by
  rw [List.pairwise_iff_getElem]
  intro i j hi hj hij
  have at_ : ∀ k (hk : k < l.length), l.idxOf l[k] = k := by
    intro k hk
    have e : l = l.take k ++ l[k] :: l.drop (k + 1) := by
      calc l = l.take k ++ l.drop k := (List.take_append_drop _ _).symm
        _ = _ := by rw [List.drop_eq_getElem_cons hk]
    rw [idx_split e hn, List.length_take]; omega
  rw [at_ i hi, at_ j hj]; exact hij
theorem walked_suffix {T : List NRow} (W : WF T) : ∀ k i, T.length - i ≤ k → ∀ x ∈ walked T i, ∃ suf, place T x = place T i ++ suf := by
  intro k
  induction k with
  | zero =>
    intro i hk x hx
    have h0 : T[i]? = none := List.getElem?_eq_none (by omega)
    rw [walked_eq W] at hx
    simp [kids, nsps, atts, h0] at hx
    subst hx; exact ⟨[], by simp⟩
  | succ k ih =>
    intro i hk x hx
    rw [walked_eq W] at hx
    simp only [List.mem_append, List.mem_singleton] at hx
    rcases hx with ((hx | hx) | hx) | hx
    · subst hx; exact ⟨[], by simp⟩
    · exact ⟨_, place_some W (W.nsp i x hx).2.2.1⟩
    · exact ⟨_, place_some W (W.att i x hx).2.2.1⟩
    · obtain ⟨c, hc, hx⟩ := List.mem_flatMap.mp hx
      have h1 := kids_lt W hc
      obtain ⟨suf, e⟩ := ih c (by omega) x hx
      exact ⟨slot T i c ++ suf, by rw [e, place_some W (W.kid i c hc).2.2.1, List.append_assoc]⟩
theorem walked_order {T : List NRow} (W : WF T) : ∀ k i, T.length - i ≤ k → (walked T i).Pairwise fun a b => lexLt (place T a) (place T b) = true := by
  intro k
  induction k with
  | zero =>
    intro i hk
    have h0 : T[i]? = none := List.getElem?_eq_none (by omega)
    rw [walked_eq W]
    simp [kids, nsps, atts, h0]
  | succ k ih =>
    intro i hk
    have pn : ∀ x ∈ nsps T i, place T x = place T i ++ [0, (nsps T i).idxOf x] := fun x hx => by rw [place_some W (W.nsp i x hx).2.2.1, slot_ns W hx]
    have pa : ∀ x ∈ atts T i, place T x = place T i ++ [1, (atts T i).idxOf x] := fun x hx => by rw [place_some W (W.att i x hx).2.2.1, slot_att W hx]
    have pk : ∀ x ∈ (kids T i).flatMap (walked T), ∃ c ∈ kids T i, x ∈ walked T c ∧ ∃ suf, place T x = place T i ++ (2 :: (kids T i).idxOf c :: suf) := fun x hx => by
      obtain ⟨c, hc, hx⟩ := List.mem_flatMap.mp hx
      obtain ⟨suf, e⟩ := walked_suffix W _ c (Nat.le_refl _) x hx
      exact ⟨c, hc, hx, suf, by rw [e, place_some W (W.kid i c hc).2.2.1, slot_kid W hc]; simp⟩
    rw [walked_eq W, List.pairwise_append, List.pairwise_append, List.pairwise_append]
    refine ⟨⟨⟨List.pairwise_singleton _ _, ?_, ?_⟩, ?_, ?_⟩, ?_, ?_⟩
    · refine (idx_pairwise (W.nspN i)).imp_of_mem fun {a b} ha hb h => ?_
      rw [pn a ha, pn b hb, lex_app]
      simp only [lexLt, if_true, if_neg (Nat.ne_of_lt h), decide_eq_true_eq]; exact h
    · intro a ha b hb
      rw [List.mem_singleton.mp ha, pn b hb]
      have := lex_app (place T i) [] [0, (nsps T i).idxOf b]
      rw [List.append_nil] at this
      rw [this]; rfl
    · refine (idx_pairwise (W.attN i)).imp_of_mem fun {a b} ha hb h => ?_
      rw [pa a ha, pa b hb, lex_app]
      simp only [lexLt, if_true, if_neg (Nat.ne_of_lt h), decide_eq_true_eq]; exact h
    · intro a ha b hb
      rw [pa b hb]
      rcases List.mem_append.mp ha with ha | ha
      · rw [List.mem_singleton.mp ha]
        have := lex_app (place T i) [] [1, (atts T i).idxOf b]
        rw [List.append_nil] at this
        rw [this]; rfl
      · rw [pn a ha, lex_app]; rfl
    · refine pairwise_flatMap_of (idx_pairwise (W.kidN i)) (fun c hc => ih c (by have := kids_lt W hc; omega)) ?_
      intro a ha b hb hab x hx y hy
      obtain ⟨s1, e1⟩ := walked_suffix W _ a (Nat.le_refl _) x hx
      obtain ⟨s2, e2⟩ := walked_suffix W _ b (Nat.le_refl _) y hy
      rw [e1, e2, place_some W (W.kid i a ha).2.2.1, place_some W (W.kid i b hb).2.2.1, slot_kid W ha, slot_kid W hb, List.append_assoc, List.append_assoc, lex_app]
      simp only [List.cons_append, List.nil_append, lexLt, if_true, if_neg (Nat.ne_of_lt hab), decide_eq_true_eq]; exact hab
    · intro a ha b hb
      obtain ⟨c, hc, hx, suf, e⟩ := pk b hb
      rw [e]
      rcases List.mem_append.mp ha with ha | ha
      · rcases List.mem_append.mp ha with ha | ha
        · rw [List.mem_singleton.mp ha]
          have := lex_app (place T i) [] (2 :: (kids T i).idxOf c :: suf)
          rw [List.append_nil] at this
          rw [this]; rfl
        · rw [pn a ha, lex_app]; rfl
      · rw [pa a ha, lex_app]; rfl
theorem perm_sorted_eq {α : Type} {R : α → α → Prop} (asym : ∀ a b, R a b → R b a → False) : ∀ {k l : List α}, k.Perm l → k.Pairwise R → l.Pairwise R → k = l
  | [], l, h, _, _ => (List.nil_perm.mp h).symm
  | a :: k, [], h, _, _ => absurd h.symm (by simp)
  | a :: k, b :: l, h, hk, hl => by
    have h1 := List.pairwise_cons.mp hk
    have h2 := List.pairwise_cons.mp hl
    have e : a = b := by
      refine Classical.byContradiction fun ne => ?_
      have m1 : a ∈ l := by
        rcases List.mem_cons.mp (h.mem_iff.mp List.mem_cons_self) with e | m
        · exact absurd e ne
        · exact m
      have m2 : b ∈ k := by
        rcases List.mem_cons.mp (h.mem_iff.mpr List.mem_cons_self) with e | m
        · exact absurd e.symm ne
        · exact m
      exact asym a b (h1.1 b m2) (h2.1 a m1)
    subst e
    rw [perm_sorted_eq asym (List.perm_cons a |>.mp h) h1.2 h2.2]
theorem walked_nodup {T : List NRow} (W : WF T) (i : Nat) : (walked T i).Nodup :=
  (walked_order W _ i (Nat.le_refl _)).imp fun {a b} h e => by rw [e, lex_irrefl] at h; cases h
theorem walked_len {T : List NRow} (W : WF T) {i : Nat} (hi : i < T.length) : (walked T i).length < 60 :=
  Nat.lt_of_le_of_lt (nodup_len (walked_nodup W i) fun x hx => (walked_mem W hi x hx).2) W.small
theorem perm_of_mem {k l : List Nat} (hk : k.Nodup) (hl : l.Nodup) (h : ∀ x, x ∈ k ↔ x ∈ l) : k.Perm l := (List.perm_ext_iff_of_nodup hk hl).mpr h
theorem in_order_eq {T : List NRow} (W : WF T) {r : Nat} {xs ys : List Nat} (hx : xs.Nodup) (hs : ∀ x ∈ xs, x ∈ walked T r) (hp : ys.Perm xs) (hy : ys.Pairwise fun a b => lexLt (place T a) (place T b) = true) :
    ys = (walked T r).filter fun x => decide (x ∈ xs) := by
  refine perm_sorted_eq (fun a b h1 h2 => lex_asymm h1 h2) ?_ hy ((walked_order W _ r (Nat.le_refl _)).filter _)
  refine hp.trans (perm_of_mem hx ((walked_nodup W r).filter _) fun x => ?_)
  simp only [List.mem_filter, decide_eq_true_eq]
  exact ⟨fun h => ⟨hs x h, h⟩, fun h => h.2⟩
end Mine
namespace Mine
noncomputable def lineD (T : List NRow) (i : Nat) : List Nat := (i :: anc T i).reverse
theorem lineD_len {T : List NRow} (W : WF T) {i : Nat} (hi : i < T.length) : (lineD T i).length < 61 := by
  unfold lineD
  have := anc_len W i
  have := W.small
  rw [List.length_reverse, List.length_cons]; omega
theorem lineD_none {T : List NRow} {i : Nat} (h : par T i = none) : lineD T i = [i] := by unfold lineD; rw [anc_none h]; rfl
theorem lineD_some {T : List NRow} (W : WF T) {i p : Nat} (h : par T i = some p) : lineD T i = lineD T p ++ [i] := by unfold lineD; rw [anc_some W h]; simp
theorem lineD_lt {T : List NRow} (W : WF T) {i : Nat} (hi : i < T.length) : ∀ x ∈ lineD T i, x < T.length := by
  intro x hx
  unfold lineD at hx
  rcases List.mem_cons.mp (List.mem_reverse.mp hx) with rfl | hx
  · exact hi
  · have := anc_lt W i x hx; omega
theorem lineD_at {T : List NRow} (W : WF T) : ∀ i, ∀ k a b, (lineD T i)[k]? = some a → (lineD T i)[k + 1]? = some b → par T b = some a := by
  intro i
  induction i using Nat.strongRecOn with
  | _ i ih =>
    intro k a b ha hb
    cases hp : par T i with
    | none =>
      rw [lineD_none hp] at hb
      simp at hb
    | some p =>
      rw [lineD_some W hp] at ha hb
      have hlt := par_lt W hp
      by_cases h1 : k + 1 < (lineD T p).length
      · rw [List.getElem?_append_left h1] at hb
        rw [List.getElem?_append_left (by omega)] at ha
        exact ih p hlt k a b ha hb
      · have h2 : k + 1 = (lineD T p).length := by
          have := (List.getElem?_eq_some_iff.mp hb).1
          rw [List.length_append, List.length_singleton] at this; omega
        rw [h2, List.getElem?_append_right (Nat.le_refl _)] at hb
        simp at hb
        subst hb
        rw [List.getElem?_append_left (by omega)] at ha
        have h3 : (lineD T p)[k]? = some p := by
          have : k = (i :: anc T p).length - 1 := by
            have h4 : (lineD T p).length = (anc T p).length + 1 := by unfold lineD; simp
            simp; omega
          cases hq : par T p with
          | none => rw [lineD_none hq] at h2 ⊢; simp at h2; subst h2; rfl
          | some q =>
            rw [lineD_some W hq] at h2 ⊢
            rw [List.length_append, List.length_singleton] at h2
            have : k = (lineD T q).length := by omega
            rw [this, List.getElem?_append_right (Nat.le_refl _)]; simp
        rw [h3] at ha
        cases ha; exact hp
theorem lineD_ne (T : List NRow) (i : Nat) : lineD T i ≠ [] := by unfold lineD; simp
theorem lineD_head {T : List NRow} (W : WF T) : ∀ i, ∃ r, (lineD T i)[0]? = some r ∧ par T r = none := by
  intro i
  induction i using Nat.strongRecOn with
  | _ i ih =>
    cases hp : par T i with
    | none => exact ⟨i, by rw [lineD_none hp]; rfl, hp⟩
    | some p =>
      obtain ⟨r, h1, h2⟩ := ih p (par_lt W hp)
      refine ⟨r, ?_, h2⟩
      rw [lineD_some W hp, List.getElem?_append_left (by
        have := lineD_ne T p
        exact List.length_pos_iff.mpr this)]
      exact h1
theorem lineD_last {T : List NRow} (W : WF T) (i : Nat) : (lineD T i)[(lineD T i).length - 1]? = some i := by
  unfold lineD
  simp
theorem place_len {T : List NRow} (W : WF T) : ∀ i, (place T i).length ≤ 2 * i + 1 := by
  intro i
  induction i using Nat.strongRecOn with
  | _ i ih =>
    cases hp : par T i with
    | none => rw [place_none hp]; simp
    | some p =>
      have := par_lt W hp
      have h2 := ih p this
      rw [place_some W hp, List.length_append]
      have : (slot T p i).length = 2 := by unfold slot; split <;> (try split) <;> rfl
      omega
theorem place_ne {T : List NRow} (W : WF T) : ∀ i, place T i ≠ [] := by
  intro i
  cases hp : par T i with
  | none => rw [place_none hp]; simp
  | some p =>
    rw [place_some W hp]
    have : (slot T p i).length = 2 := by unfold slot; split <;> (try split) <;> rfl
    intro e
    have e2 : (place T p ++ slot T p i).length = 0 := by rw [e]; rfl
    rw [List.length_append] at e2; omega
theorem slot_ne (T : List NRow) (p i : Nat) : slot T p i ≠ [] := by unfold slot; split <;> (try split) <;> simp
theorem slot_len (T : List NRow) (p i : Nat) : (slot T p i).length = 2 := by unfold slot; split <;> (try split) <;> rfl
end Mine
namespace Mine
theorem News.sub {h₀ h : Heap} {L : Addr} {l l' : List (Addr × Obj)} (N : News h₀ L h l) (hs : ∀ p ∈ l', p ∈ l) : News h₀ L h l' := fun p hp => N p (hs p hp)
section
variable {prog : Program} {w : World} {A : Around} {s : Shared} {K : Frag}
  {name qual : Str} {params : Arguments} {body : List Stmt} {scope : Scope} {dV kV doc pm cdv ct oc : Value} {an od : Option Addr} {osl : Array (Option Value)} {f : Addr} {vals : List Value} {Q E : Value → Shared → Prop} {n : Nat}

theorem call_ownC (H : Here K A s.heap) (hr : Room A (n + 1))
    (ho : K.lookup f = some ⟨oc, od, .func (fnOf name qual params body scope dV kV doc pm an cdv ct), osl⟩) (hcd : codeIn K cdv qual = true)
    (hbind : BindsTo s (fnOf name qual params body scope dV kV doc pm an cdv ct) ⟨vals, []⟩ ((params.args.map (·.arg)).zip vals)) (hkind : (((params.args.map (·.arg)).zip vals).all fun y => scope.names.lookup y.1 == some .local || scope.names.lookup y.1 == some .cell) = true)
    (hnd : ((cellsFrom 0 scope.names []).map (·.1)).Nodup)
    (h : ∀ (A₀ : Around) (base : Heap) (outer : List Env) (p : Program) (loose : List Str) (mean : ExcName → Option Value) (mg mb : Str → Option Value) (d u : Nat) (gd : Option (List Code)) (L' : Addr) (h₁ : Heap) (tk₁ : Nat) (cells : List (Addr × Obj)),
      Below A₀ base outer s.heap → K.In s.heap → Top p loose mean mg mb s.heap → Fr s.heap L' h₁ (bindL (envOfC qual scope L' f cdv).kindOf ((params.args.map (·.arg)).zip vals) fun _ => none) → News s.heap L' h₁ cells →
      CellsAre (bindC (envOfC qual scope L' f cdv).kindOf ((params.args.map (·.arg)).zip vals) fun _ => none) (cellsFrom (L' + 1) scope.names []) cells → d + n < recursionLimit → u + 8 * n + 200 < cLine →
      wpAny (model prog w) (arnd d (envOfC qual scope L' f cdv) outer gd u) (execs body (envOfC qual scope L' f cdv))
        (fun fl s' => Q (match fl with | .ret v => v | _ => .none) s') (fun _ _ => False) { s with heap := h₁, toks := tk₁ })
    (hco : scope.isCoroutine = false) (hgen : scope.isGenerator = false) (hk : scope.kind = .function) : wpAny (model prog w) A (call (.ref f) vals) Q E s := by
  obtain ⟨X, hh, A₀, base, h₀, outer, env, L, m, p, loose, mean, mg, mb, B, F, T, hA, hf, hke⟩ := H
  have G := groundX (R := fun _ _ => True) (news := []) B F News.nil hA hf hke
  have G2 : Below A base (env :: outer) s.heap := G.2.1
  refine wpAny_call (codeAny_call_function (Nat.lt_of_le_of_lt (Nat.le_add_right _ _) hr.1) (X _ _ ho) rfl hco hgen rfl (codeRec_of X hcd) (hbind _ _ _ _ ?_))
  refine wpAny_newFunctionEnv_cells hk (kindsX hkind _) fun env' he s' x => ?_
  subst he
  refine ⟨T.nolimit.keeps x.toInCall.keep, codeAny_func ?_⟩
  obtain ⟨h₁, tk, rfl, _⟩ := x.done
  have hk₁ := x.toInCall.keep
  obtain ⟨cells, NC, Y⟩ := Cl.news (h₀ := s.heap) (Nat.le_refl _) fun n c hm => ⟨x.cell n c (lookup_of_mem_nodup (cellsFrom_names scope.names 0 (s.heap.objs.size + 1) [] [] rfl ▸ hnd) hm), x.above n c hm⟩
  have hd : A.deeper (envOfC qual scope s.heap.objs.size f cdv) = arnd (A.depth + 1) (envOfC qual scope s.heap.objs.size f cdv) (env :: outer) A.guards (A.units + 3) := by
    obtain ⟨hd, dp, fr, gs, u⟩ := A
    simp only at hh hA
    subst hh hA
    rfl
  have key := h A base (env :: outer) p loose mean mg mb (A.depth + 1) (A.units + 3) A.guards s.heap.objs.size h₁ tk cells G2 X T ⟨x.toInCall.ns, fun b o e => hk₁ b o e, Nat.le_refl _⟩ NC Y (by have := hr.1; omega) (by have := hr.2; omega)
  rw [← hd] at key
  exact wpAny_mono key (fun _ _ q => q) fun _ _ q => q.elim
end
end Mine
namespace Mine
open PyProof.Rows.LCg (lst NsObj ns_obj lst_snoc)
section
variable {prog : Program} {w : World} {A : Around} {E : Value → Shared → Prop} {s : Shared} {env : Env} {h₀ : Heap} {L : Addr} {m : Str → Option Value} {kx vx : Expr} {x : Str} {scope : Scope} {cl : List (Str × Addr)}

inductive DStep (h₀ : Heap) (L : Addr) (m : Str → Option Value) (J : List (Int × Value) → List (Addr × Obj) → Prop) (own : List (Addr × Obj)) (bad : List Addr) (ys : List (Int × Value)) (s₁ s₂ : Shared) : Prop
  | ik (h' : _) (tk' : _) (news' : _)
    (f0 : s₂ = { s₁ with heap := h', toks := tk' })
    (f1 : Fr h₀ L h' m)
    (f2 : News h₀ L h' (own ++ news'))
    (f3 : (∀ p ∈ news', p.1 ∉ bad))
    (f4 : J ys news') : DStep h₀ L m J own bad ys s₁ s₂

inductive DCompAt (prog : Program) (w : World) (A : Around) (h₀ : Heap) (L : Addr) (m : Str → Option Value) (env : Env) (kx vx : Expr) (x : Str) (scope : Scope) (cl : List (Str × Addr)) (mf : Addr → Str → Option Value) (Fin : Addr → Shared → Prop) (it : Value) (s₂ : Shared) : Prop
  | ik (I : Addr) (fp : List Addr) (n : Nat) (P : Nat → Value → Prop) (St : Nat → Heap → Prop) (news : List (Addr × Obj)) (J : Nat → List (Int × Value) → List (Addr × Obj) → Prop)
    (f0 : it = .ref I)
    (f1 : Walks prog w A I fp [I] n P St)
    (f2 : n ≤ sizeLine)
    (f3 : L ∉ fp)
    (f4 : h₀.get? I = none)
    (f5 : (∀ b ∈ fp, b < s₂.heap.objs.size))
    (f6 : (∀ p ∈ news, p.1 ≠ I))
    (f7 : St 0 s₂.heap)
    (f8 : (∀ i h, St i h → ∀ b ∈ fp, ∃ o, h.get? b = some o))
    (f9 : Fr h₀ L s₂.heap m)
    (f10 : News h₀ L s₂.heap news)
    (f11 : J 0 [] news)
    (f12 : (∀ i v ys news₁ h₁ tk₁ own bad C oC m₂ E', i < n → P i v → ys.length ≤ i → J i ys news₁ → (∀ b ∈ fp, h₀.get? b = none → ∀ o, h₁.get? b = some o → (b, o) ∈ own) → (∀ p ∈ own, p.1 ∈ fp ∨ p.1 ∈ bad) → (∀ b ∈ bad, ∃ o, (b, o) ∈ own) → (∀ b ∈ fp, ∃ o, h₁.get? b = some o) → (∀ p ∈ news₁, p.1 ∉ bad) → (C, oC) ∈ own → NsObj oC m₂ → m₂ x = some v → Fr h₀ L h₁ m → News h₀ L h₁ (own ++ news₁) → wpAny (model prog w) A (eval kx (compEnvC scope cl C env)) (fun kv s₃ => wpAny (model prog w) A (eval vx (compEnvC scope cl C env)) (fun y s₄ => ∃ k t, kv = .int k t ∧ DStep h₀ L m (fun ys nw => J (i + 1) ys nw) own bad (stored ys k y) { s₂ with heap := h₁, toks := tk₁ } s₄) E' s₃) E' { s₂ with heap := h₁, toks := tk₁ }))
    (f13 : ∀ D oD h' tk ys news', J n ys news' → ys.length ≤ n → Obj.IsDictOf (intKind prog w) oD ys → @LT.lt Nat _ L D → Fr h₀ L h' (mf D) → News h₀ L h' ((D, oD) :: news') → (∀ p ∈ news', @Ne Nat p.1 D) → Fin D { s₂ with heap := h', toks := tk }) : DCompAt prog w A h₀ L m env kx vx x scope cl mf Fin it s₂

inductive CInvD (prog : Program) (w : World) (h₀ : Heap) (L : Addr) (m : Str → Option Value) (n : Nat) (St : Nat → Heap → Prop) (J : Nat → List (Int × Value) → List (Addr × Obj) → Prop) (I D C : Addr) (s₂ : Shared) (k : Nat) (s' : Shared) : Prop
  | ik (h' : Heap) (tk : Nat) (i : Nat) (ys : List (Int × Value)) (oD : Obj) (m' : Str → Option Value) (news' : List (Addr × Obj))
    (f0 : s' = { s₂ with heap := h', toks := tk }) (f1 : i ≤ n) (f2 : k = n + 1 - i) (f3 : ys.length ≤ i) (f4 : St i h') (f5 : Fr h₀ L h' m) (f6 : h'.Ns C m') (f7 : Obj.IsDictOf (intKind prog w) oD ys) (f8 : News h₀ L h' ((D, oD) :: news')) (f9 : (∀ p ∈ news', p.1 ≠ I ∧ p.1 ≠ D ∧ p.1 ≠ C)) (f10 : J i ys news') : CInvD prog w h₀ L m n St J I D C s₂ k s'
inductive CAftD (h₀ : Heap) (L : Addr) (m : Str → Option Value) (St : Nat → Heap → Prop) (J : Nat → List (Int × Value) → List (Addr × Obj) → Prop) (I D C : Addr) (s₂ : Shared) (oC oD : Obj) (i : Nat) (zs : List (Int × Value)) (s₅ : Shared) : Prop
  | ik (h₄ : Heap) (tk₄ : Nat) (news₄ : List (Addr × Obj))
    (f0 : s₅ = { s₂ with heap := h₄, toks := tk₄ }) (f1 : Fr h₀ L h₄ m) (f2 : h₄.get? C = some oC) (f3 : h₄.get? D = some (oD)) (f4 : News h₀ L h₄ news₄) (f5 : St (i + 1) h₄) (f6 : (∀ p ∈ news₄, p.1 ≠ I ∧ p.1 ≠ D ∧ p.1 ≠ C)) (f7 : J (i + 1) zs news₄) : CAftD h₀ L m St J I D C s₂ oC oD i zs s₅
theorem dcomp_block {iter : Expr} {px : Pos} {pos : Pos} {s₂ : Shared} {it : Value} {mf : Addr → Str → Option Value} {Fin : Addr → Shared → Prop} {RR : Value → Addr → Result → Shared → Prop}
    (hcell : ∀ y ∈ scope.names, y.2 ≠ .cell) (hkind : scope.kind = .function) (hx : scope.names.lookup x = some .local)
    (H : DCompAt prog w A h₀ L m env kx vx x scope cl mf Fin it s₂)
    (hRR : ∀ D C h tk m', Fr h₀ L h m → D ≠ L → h₀.get? D = none → h.Ns C m' → h₀.get? C = none → C ≠ L → C ≠ D →
      (∀ h' tk', Fr h₀ L h' (mf D) → (∀ b o, b ≠ C → b ≠ L → h.get? b = some o → h'.get? b = some o) → Fin D { s₂ with heap := h', toks := tk' }) → RR (.ref D) C (.ok .next) { s₂ with heap := h, toks := tk }) :
    wpAny (model prog w) A newDict (fun acc s₃ => wpAny (model prog w) A (newFunctionEnv scope env.globals cl [] env.qual none .none (some env)) (fun cenv s₄ =>
      codeAny (model prog w) A (.compStart (.DictComp kx vx [⟨.Name x px, iter, [], 0⟩] scope pos) 0 it acc { cenv with scope := relabel scope env }) (RR acc cenv.locals) s₄) E s₃) E s₂ := by
  obtain ⟨I, fp, n, P, St, news, J, rfl, W, hsz, hLf, hI₀, hfp, hnI, hst, hlive, F, N, hJ, step, done⟩ := H
  refine wpAny_newObj_type (wpAny_newFunctionEnv hcell (by intro y hy; simp at hy) (fun h₁ hns₁ hsb₁ => ?_) hkind)
  dsimp only at hns₁ hsb₁ ⊢
  have hnew : (s₂.heap.push { cls := .type "dict", dict := none, data := .dict #[] }).DictOf (intKind prog w) s₂.heap.objs.size [] := Heap.DictOf.new s₂.heap
  generalize hH2 : s₂.heap.push { cls := .type "dict", dict := none, data := .dict #[] } = H2 at hns₁ hsb₁ hnew ⊢
  have hC : H2.objs.size = s₂.heap.objs.size + 1 := by rw [← hH2, Heap.size_push]
  have hDC : s₂.heap.objs.size ≠ H2.objs.size := by rw [hC]; exact Nat.ne_of_lt (Nat.lt_succ_self _)
  have below : ∀ b, b < s₂.heap.objs.size → b ≠ H2.objs.size ∧ b ≠ s₂.heap.objs.size := fun b hb => ⟨by rw [hC]; exact Nat.ne_of_lt (Nat.lt_succ_of_lt hb), Nat.ne_of_lt hb⟩
  have hDf : s₂.heap.objs.size ∉ fp := fun hm => Nat.lt_irrefl _ (hfp _ hm)
  have hCf : H2.objs.size ∉ fp := fun hm => by have := hfp _ hm; rw [hC] at this; exact Nat.lt_irrefl _ (Nat.lt_of_succ_lt this)
  have hIf : I ∈ fp := W.sub I (List.mem_singleton.mpr rfl)
  have hIlt : I < s₂.heap.objs.size := hfp I hIf
  have old : ∀ b o, s₂.heap.get? b = some o → h₁.get? b = some o := fun b o e => hsb₁.extBut b o (below b (Heap.lt_size e)).1 (Heap.get?_push_of_some _ (hH2 ▸ Heap.get?_push_of_some _ e))
  have hacc : h₁.DictOf (intKind prog w) s₂.heap.objs.size [] := hnew.at fun o e => hsb₁.extBut _ _ hDC (Heap.get?_push_of_some _ e)
  obtain ⟨oD₀, hacc, hod₀⟩ := Heap.dictOf_iff.mp hacc
  have hst₁ : St 0 h₁ := W.frame _ _ _ hst fun b _ o e => old b o e
  have fresh₀ : ∀ a, s₂.heap.objs.size ≤ a → h₀.get? a = none := fun a ha => by
    cases e : h₀.get? a with
    | none => rfl
    | some o' => exact absurd (Heap.lt_size (F.keep a o' e)) (Nat.not_lt.mpr ha)
  have hD₀ : h₀.get? s₂.heap.objs.size = none := fresh₀ _ (Nat.le_refl _)
  have hC₀ : h₀.get? H2.objs.size = none := fresh₀ _ (by rw [hC]; exact Nat.le_succ _)
  have hLlt : L < s₂.heap.objs.size := F.ns.lt
  have hDL : s₂.heap.objs.size ≠ L := Ne.symm (below L hLlt).2
  have hCL : H2.objs.size ≠ L := Ne.symm (below L hLlt).1
  have hCI : I ≠ H2.objs.size := (below I hIlt).1
  have hDI : I ≠ s₂.heap.objs.size := (below I hIlt).2
  have hIL : L ≠ I := fun e => hLf (e ▸ hIf)
  generalize hDd : s₂.heap.objs.size = D at *
  generalize hCc : H2.objs.size = C at *
  have off₀ : ∀ p ∈ news, p.1 ≠ D ∧ p.1 ≠ C := fun p hp => ⟨(below _ (by rw [← hDd]; exact Heap.lt_size (N p hp).1)).2, (below _ (by rw [← hDd]; exact Heap.lt_size (N p hp).1)).1⟩
  have loop : ∀ s₃ : Shared, s₃ = { s₂ with heap := h₁, toks := s₂.toks + ([] : List (Str × Value)).length } →
      codeAny (model prog w) A (.compLoop (.DictComp kx vx [⟨.Name x px, iter, [], 0⟩] scope pos) 0 (.ref I) (.ref D) (compEnvC scope cl C env))
        (RR (.ref D) C) s₃ := by
    rintro s₃ rfl
    refine codeAny_compLoop_testsD
      (CInvD prog w h₀ L m n St J I D C s₂) ?_ (n + 1)
      ⟨h₁, _, 0, [], oD₀, _, news, rfl, Nat.zero_le _, rfl, Nat.le_refl _, hst₁, F.keeps old, hns₁, hod₀, fun p hp => ?_, fun p hp => ⟨hnI p hp, off₀ p hp⟩, hJ⟩
    · rintro k s' ⟨h', tk, i, ys, oD, m', news', rfl, hi, rfl, hyl, hst', F', hn', hod, N', off', hJ'⟩
      by_cases hlt : i < n
      · refine W.item i _ _ _ hlt hst' fun v h₂ tk₂ hPv hst₂ hk₂ => ?_
        refine wpAny_assign_Name (wpAny_storeName_local (lookup_relabel_local hx) (hn'.at' fun o e => hk₂ _ o (by simpa using Ne.symm hCI) e) (fun h₃ hn₃ hs₃ => ?_) (by simp [compEnvC, relabel, hkind]))
        have hst₃ : St (i + 1) h₃ := W.frame _ _ _ hst₂ fun b hb o e => hs₃.extBut b o (fun q => hCf (by have q' : b = C := q; rw [← q']; exact hb)) e
        obtain ⟨oC, heC, hoC⟩ := ns_obj hn₃
        have F₃ : Fr h₀ L h₃ m := (LCg.fr_but F' hk₂ hIL hI₀).change hs₃ hCL hC₀
        have N₂ : News h₀ L h₂ ((D, oD) :: news') := LCg.news_but N' hk₂ fun p hp => by
          rcases List.mem_cons.mp hp with rfl | hp
          · exact Ne.symm hDI
          · exact (off' p hp).1
        have hD₃ : h₃.get? D = some (oD) := hs₃.extBut _ _ hDC (N₂ _ List.mem_cons_self).1
        have Nown : News h₀ L h₃ (PyProof.Rows.ownOf h₀ fp h₃) := news_ownOf hLf
        have N₃ : News h₀ L h₃ ((PyProof.Rows.ownOf h₀ fp h₃ ++ [(C, oC), (D, oD)]) ++ news') := fun p hp => by
          rcases List.mem_append.mp hp with hp | hp
          · rcases List.mem_append.mp hp with hp | hp
            · exact Nown p hp
            · rcases List.mem_cons.mp hp with rfl | hp
              · exact ⟨heC, hCL, hC₀⟩
              · rw [List.mem_singleton.mp hp]; exact ⟨hD₃, hDL, hD₀⟩
          · exact ⟨hs₃.extBut _ _ (off' p hp).2.2 (N₂ p (List.mem_cons_of_mem _ hp)).1, (N₂ p (List.mem_cons_of_mem _ hp)).2⟩
        have hIown : ∃ o, (I, o) ∈ PyProof.Rows.ownOf h₀ fp h₃ := by
          obtain ⟨oI, hoI⟩ := hlive _ _ hst₃ I hIf
          exact ⟨oI, mem_ownOf hIf hI₀ hoI⟩
        have T := step i v ys news' h₃ (tk₂ + 1) (PyProof.Rows.ownOf h₀ fp h₃ ++ [(C, oC), (D, oD)]) [I, D, C] C oC _ (notedBy (model prog w) A (compEnvC scope cl C env) fun e s' => RR (.ref D) C (.error e) s') hlt hPv hyl hJ'
          (fun b hb hn o e => List.mem_append_left _ (mem_ownOf hb hn e)) (fun p hp => by
            rcases List.mem_append.mp hp with hp | hp
            · exact .inl (ownOf_sub p hp)
            · rcases List.mem_cons.mp hp with rfl | hp
              · exact .inr (by simp)
              · rw [List.mem_singleton.mp hp]; exact .inr (by simp))
          (fun b hb => by
            have hb' : b = I ∨ b = D ∨ b = C := by simpa using hb
            rcases hb' with rfl | rfl | rfl
            · obtain ⟨o, ho⟩ := hIown; exact ⟨o, List.mem_append_left _ ho⟩
            · exact ⟨oD, by simp⟩
            · exact ⟨oC, by simp⟩)
          (hlive _ _ hst₃) (fun p hp hb => by
            have hb' : p.1 = I ∨ p.1 = D ∨ p.1 = C := by simpa using hb
            rcases hb' with e | e | e
            · exact (off' p hp).1 e
            · exact (off' p hp).2.1 e
            · exact (off' p hp).2.2 e)
          (List.mem_append_right _ List.mem_cons_self) hoC (by simp) F₃ N₃
        have after : ∀ zs s₅, DStep h₀ L m (fun ys nw => J (i + 1) ys nw) (PyProof.Rows.ownOf h₀ fp h₃ ++ [(C, oC), (D, oD)]) [I, D, C] zs { s₂ with heap := h₃, toks := tk₂ + 1 } s₅ →
            CAftD h₀ L m St J I D C s₂ oC oD i zs s₅ := by
          rintro zs s₅ ⟨h₄, tk₄, news₄, rfl, F₄, N₄, hsep, hJ₄⟩
          have own_ : ∀ p ∈ PyProof.Rows.ownOf h₀ fp h₃ ++ [(C, oC), (D, oD)], h₄.get? p.1 = some p.2 := fun p hp => (N₄ p (List.mem_append_left _ hp)).1
          refine ⟨h₄, tk₄, news₄, rfl, F₄, own_ (C, oC) (List.mem_append_right _ List.mem_cons_self), own_ (D, oD) (List.mem_append_right _ (List.mem_cons_of_mem _ List.mem_cons_self)), fun p hp => N₄ p (List.mem_append_right _ hp), ?_, fun p hp => ?_, hJ₄⟩
          · refine W.frame _ _ _ hst₃ fun b hb o e => ?_
            cases hn : h₀.get? b with
            | some o₀ =>
              have : o₀ = o := by have q := F₃.keep b o₀ hn; rw [e] at q; exact (Option.some.inj q).symm
              exact this ▸ F₄.keep b o₀ hn
            | none => exact own_ (b, o) (List.mem_append_left _ (mem_ownOf hb hn e))
          · have := hsep p hp
            simp only [List.mem_cons, List.not_mem_nil, or_false, not_or] at this
            exact this
        refine wpAny_tests_nil ?_
        simp only [if_true]
        refine wpAny_mono T (fun kv s₄ hq => wpAny_mono hq (fun y s₅ hq5 => ?_) fun _ _ e => e) fun _ _ e => e
        obtain ⟨k, t, rfl, hq5⟩ := hq5
        obtain ⟨h₄, tk₄, news₄, rfl, F₄, zC, zD, N₄, hst₄, off₄, hJ₄⟩ := after _ _ hq5
        refine wpAny_dictSet_pairs (hsz := by omega) (intKind_is prog w k t) (Heap.dictOf_iff.mpr ⟨oD, zD, hod⟩) fun h₅ hl₅ hs₅ => ?_
        obtain ⟨oD₅, hD₅, hod₅⟩ := Heap.dictOf_iff.mp hl₅
        refine ⟨n + 1 - (i + 1), by omega, h₅, _, i + 1, stored ys k y, oD₅, _, news₄, rfl, hlt, rfl, by have := stored_length_le ys k y; omega, W.frame _ _ _ hst₄ fun b hb o e => hs₅.extBut b o (fun q => hDf (q ▸ hb)) e, F₄.change hs₅ hDL hD₀,
          (hoC.ns zC).sameBut hs₅ (Ne.symm hDC), hod₅, fun p hp => ?_, off₄, hJ₄⟩
        rcases List.mem_cons.mp hp with rfl | hp
        · exact ⟨hD₅, hDL, hD₀⟩
        · exact ⟨hs₅.extBut _ _ (off₄ p hp).2.1 (N₄ p hp).1, (N₄ p hp).2⟩
      · obtain rfl : i = n := Nat.le_antisymm hi (Nat.not_lt.mp hlt)
        refine W.done _ _ _ hst' fun h₂ tk₂ hk₂ => ?_
        have N₂ : News h₀ L h₂ ((D, oD) :: news') := LCg.news_but N' hk₂ fun p hp => by
          rcases List.mem_cons.mp hp with rfl | hp
          · exact Ne.symm hDI
          · exact (off' p hp).1
        refine hRR D C h₂ tk₂ _ (LCg.fr_but F' hk₂ hIL hI₀) hDL hD₀ (hn'.at' fun o e => hk₂ _ o (by simpa using Ne.symm hCI) e) hC₀ hCL (Ne.symm hDC) fun h'' tk'' F'' hk'' => ?_
        refine done D oD h'' tk'' ys news' hJ' hyl hod hLlt F'' (fun p hp => ?_) fun p hp => (off' p hp).2.1
        have hp2 : p.1 ≠ C := by
          rcases List.mem_cons.mp hp with rfl | hp
          · exact hDC
          · exact (off' p hp).2.2
        exact ⟨hk'' _ _ hp2 (N₂ p hp).2.1 (N₂ p hp).1, (N₂ p hp).2⟩
    · rcases List.mem_cons.mp hp with rfl | hp
      · exact ⟨hacc, hDL, hD₀⟩
      · exact ⟨old _ _ (N p hp).1, (N p hp).2⟩
  exact codeAny_compStart_dict (loop _ rfl) (W.self 0 _ _ _ hst₁ (loop _ rfl))

theorem eval_dcomp {iter : Expr} {px : Pos} {pos : Pos} {Q : Value → Shared → Prop} (_F₀ : Fr h₀ L s.heap m)
    (hclos : closureFor scope env = pure cl) (hcell : ∀ y ∈ scope.names, y.2 ≠ .cell) (hkind : scope.kind = .function)
    (hnames : ∀ y ∈ scope.names, y.2 = .local → scope.names.lookup y.1 = some .local) (hx : scope.names.lookup x = some .local)
    (h : wpAny (model prog w) A (eval iter env) (fun xv s₁ => wpAny (model prog w) A (pyIter xv) (fun it s₂ => DCompAt prog w A h₀ L m env kx vx x scope cl (fun _ => m) (fun D s' => Q (.ref D) s') it s₂) E s₁) E s)
    (hs : ∀ x, foldedSetIterable iter env x = pure x := by intro _; rfl) :
    wpAny (model prog w) A (eval (.DictComp kx vx [⟨.Name x px, iter, [], 0⟩] scope pos) env) Q E s := by
  rw [arm_eval_DictComp]
  refine wpAny_comprehension_free (use := none) rfl hs hclos hkind hnames (wpAny_mono h (fun xv s₁ h₁ => wpAny_mono h₁ (fun it s₂ h₂ => ?_) fun _ _ e => e) fun _ _ e => e)
  refine dcomp_block (RR := fun acc C => compPost (model prog w) A E none Q acc C) hcell hkind hx h₂ ?_
  intro D C h tk m' F hDL hD₀ hn hC₀ hCL hCD fin
  exact ⟨m', hn, fun h'' hs'' => fin h'' tk (F.change hs'' hCL hC₀) fun b o hb _ e => hs''.extBut b o hb e⟩
inductive DCompEnd {σ : Type} (h₀ : Heap) (L : Addr) (m : Str → Option Value) (Led : σ → List (Addr × Obj)) (ys : σ → List (Int × Value)) (J : σ → Prop) (rest : List (Addr × Obj)) (out : List (Int × Value)) (s₁ s₂ : Shared) : Prop
  | ik (c' : _) (h' : _) (tk' : _) (news' : _)
    (f0 : s₂ = { s₁ with heap := h', toks := tk' })
    (f1 : Fr h₀ L h' m)
    (f2 : News h₀ L h' news')
    (f3 : (∀ p ∈ Led c' ++ rest, p ∈ news'))
    (f4 : (∀ q ∈ Led c', ∀ p ∈ rest, @Ne Nat p.1 q.1))
    (f5 : ys c' = out)
    (f6 : J c') : DCompEnd h₀ L m Led ys J rest out s₁ s₂
theorem DCompEnd.intro {σ : Type} {Led : σ → List (Addr × Obj)} {ys : σ → List (Int × Value)} {J : σ → Prop} {rest : List (Addr × Obj)} {out : List (Int × Value)} {s₁ : Shared} {h' : Heap} {tk' : Nat} {news' : List (Addr × Obj)}
    (c' : σ) (F : Fr h₀ L h' m) (N : News h₀ L h' news') (mem : ∀ p ∈ Led c' ++ rest, p ∈ news') (hy : ys c' = out) (hJ : J c') (sep : ∀ q ∈ Led c', ∀ p ∈ rest, @Ne Nat p.1 q.1) : DCompEnd h₀ L m Led ys J rest out s₁ { s₁ with heap := h', toks := tk' } :=
  ⟨c', h', tk', news', rfl, F, N, mem, sep, hy, hJ⟩

theorem dcomp_of {σ : Type} {I : Addr} {fp : List Addr} {n : Nat} {P : Nat → Value → Prop} {St : Nat → Heap → Prop} {mf : Addr → Str → Option Value} {Fin : Addr → Shared → Prop} (Led : σ → List (Addr × Obj)) (ys : σ → List (Int × Value)) (J : Nat → σ → Prop) (c₀ : σ) (fix : List (Addr × Obj)) {news : List (Addr × Obj)}
    (W : Walks prog w A I fp [I] n P St) (hsz : n ≤ sizeLine) (hLf : L ∉ fp) (hI₀ : h₀.get? I = none) (hfp : ∀ b ∈ fp, b < s.heap.objs.size) (hst : St 0 s.heap) (hlive : ∀ i h, St i h → ∀ b ∈ fp, ∃ o, h.get? b = some o)
    (F : Fr h₀ L s.heap m) (N : News h₀ L s.heap news) (hin : ∀ p ∈ Led c₀ ++ fix, p ∈ news) (hnI : ∀ p ∈ Led c₀ ++ fix, p.1 ≠ I) (hoff : ∀ q ∈ Led c₀, ∀ p ∈ fix, @Ne Nat p.1 q.1) (hcf : ∀ p ∈ Led c₀, p.1 ∉ fp) (hy0 : ys c₀ = []) (hj : J 0 c₀)
    (turn : ∀ i v c h tk own C oC m₂ E', P i v → i < n → J i c → (ys c).length ≤ i → (C, oC) ∈ own → NsObj oC m₂ → m₂ x = some v → Fr h₀ L h m → News h₀ L h (Led c ++ (fix ++ own)) → (∀ q ∈ Led c, ∀ p ∈ fix ++ own, @Ne Nat p.1 q.1) →
      wpAny (model prog w) A (eval kx (compEnvC scope cl C env)) (fun kv s₃ => wpAny (model prog w) A (eval vx (compEnvC scope cl C env)) (fun y s₄ => ∃ k t, kv = .int k t ∧ DCompEnd h₀ L m Led ys (J (i + 1)) (fix ++ own) (stored (ys c) k y) { s with heap := h, toks := tk } s₄) E' s₃) E' { s with heap := h, toks := tk })
    (done : ∀ D oD c h' tk, J n c → (ys c).length ≤ n → Obj.IsDictOf (intKind prog w) oD (ys c) → @LT.lt Nat _ L D → Fr h₀ L h' (mf D) → News h₀ L h' ((D, oD) :: (Led c ++ fix)) → (∀ p ∈ Led c ++ fix, @Ne Nat p.1 D) → (∀ q ∈ Led c, ∀ p ∈ fix, @Ne Nat p.1 q.1) → Fin D { s with heap := h', toks := tk }) :
    DCompAt prog w A h₀ L m env kx vx x scope cl mf Fin (.ref I) s := by
  have hIf : I ∈ fp := W.sub I (List.mem_singleton.mpr rfl)
  refine ⟨I, fp, n, P, St, Led c₀ ++ fix, fun i zs nw => ∃ c, nw = Led c ++ fix ∧ zs = ys c ∧ (∀ q ∈ Led c, ∀ p ∈ fix, @Ne Nat p.1 q.1) ∧ (∀ p ∈ Led c, p.1 ∉ fp) ∧ J i c, rfl, W, hsz, hLf, hI₀, hfp, hnI, hst, hlive, F, fun p hp => N p (hin p hp),
    ⟨c₀, rfl, hy0.symm, hoff, hcf, hj⟩, ?_, ?_⟩
  · rintro i v zs nw h₁ tk₁ own bad C oC m₂ E' hi hP hzl ⟨c, rfl, rfl, hof, hcf', hJ⟩ hall hown hbad hlv hnb hCm hoC hxv F₁ N₁
    have hsep : ∀ q ∈ Led c, ∀ p ∈ fix ++ own, @Ne Nat p.1 q.1 := fun q hq p hp => by
      rcases List.mem_append.mp hp with hp | hp
      · exact hof q hq p hp
      · intro e
        have e' : p.1 = q.1 := e
        rcases hown p hp with hpf | hpf
        · exact hcf' q hq (by rw [← e']; exact hpf)
        · exact hnb q (List.mem_append_left _ hq) (by rw [← e']; exact hpf)
    have N₂ : News h₀ L h₁ (Led c ++ (fix ++ own)) := fun p hp => N₁ p (by
      rcases List.mem_append.mp hp with hp | hp
      · exact List.mem_append_right _ (List.mem_append_left _ hp)
      · rcases List.mem_append.mp hp with hp | hp
        · exact List.mem_append_right _ (List.mem_append_right _ hp)
        · exact List.mem_append_left _ hp)
    have key : ∀ out s₃, DCompEnd h₀ L m Led ys (J (i + 1)) (fix ++ own) out { s with heap := h₁, toks := tk₁ } s₃ →
        DStep h₀ L m (fun zs nw => ∃ c, nw = Led c ++ fix ∧ zs = ys c ∧ (∀ q ∈ Led c, ∀ p ∈ fix, @Ne Nat p.1 q.1) ∧ (∀ p ∈ Led c, p.1 ∉ fp) ∧ J (i + 1) c) own bad out { s with heap := h₁, toks := tk₁ } s₃ := by
      rintro out s₃ ⟨c', h', tk', news', rfl, F', N', hm, hs, rfl, hJ'⟩
      refine ⟨h', tk', Led c' ++ fix, rfl, F', fun p hp => N' p (hm p ?_), fun p hp hb => ?_, c', rfl, rfl, fun q hq p hp => hs q hq p (List.mem_append_left _ hp), fun p hp hb => ?_, hJ'⟩
      · rcases List.mem_append.mp hp with hp | hp
        · exact List.mem_append_right _ (List.mem_append_right _ hp)
        · rcases List.mem_append.mp hp with hp | hp
          · exact List.mem_append_left _ hp
          · exact List.mem_append_right _ (List.mem_append_left _ hp)
      · rcases List.mem_append.mp hp with hp | hp
        · obtain ⟨o, ho⟩ := hbad p.1 hb
          exact hs p hp (p.1, o) (List.mem_append_right _ ho) rfl
        · exact hnb p (List.mem_append_right _ hp) hb
      · obtain ⟨o, ho⟩ := hlv p.1 hb
        have h0 := (N' p (hm p (List.mem_append_left _ hp))).2.2
        exact hs p hp (p.1, o) (List.mem_append_right _ (hall p.1 hb h0 o ho)) rfl
    refine wpAny_mono (turn i v c h₁ tk₁ own C oC m₂ E' hP hi hJ hzl hCm hoC hxv F₁ N₂ hsep) (fun kv s₃ hq => wpAny_mono hq (fun y s₄ hq4 => ?_) fun _ _ e => e) fun _ _ e => e
    obtain ⟨k, t, e, hq4⟩ := hq4
    exact ⟨k, t, e, key _ _ hq4⟩
  · rintro D oD h' tk zs nw ⟨c, rfl, rfl, hof, _, hJ⟩ hzl hoD hLD F' N' hD
    exact done D oD c h' tk hJ hzl hoD hLD F' N' hD hof

theorem dcomp_list {σ : Type} {l : Addr} {vs : List Value} {mf : Addr → Str → Option Value} {Fin : Addr → Shared → Prop} (Led : σ → List (Addr × Obj)) (ys : σ → List (Int × Value)) (J : Nat → σ → Prop) (c₀ : σ) (fix : List (Addr × Obj)) {news : List (Addr × Obj)}
    (hh : A.handled = none) (hl : s.heap.IsList l vs.toArray) (hlL : l ≠ L) (hsz : vs.length ≤ sizeLine)
    (F : Fr h₀ L s.heap m) (N : News h₀ L s.heap news) (hin : ∀ p ∈ Led c₀ ++ fix, p ∈ news) (hoff : ∀ q ∈ Led c₀, ∀ p ∈ fix, @Ne Nat p.1 q.1) (hll : ∀ p ∈ Led c₀, @Ne Nat p.1 l) (hy0 : ys c₀ = []) (hj : J 0 c₀)
    (turn : ∀ i v c h tk own C oC m₂ E', vs[i]? = some v → i < vs.length → J i c → (ys c).length ≤ i → (C, oC) ∈ own → NsObj oC m₂ → m₂ x = some v → Fr h₀ L h m → News h₀ L h (Led c ++ (fix ++ own)) → (∀ q ∈ Led c, ∀ p ∈ fix ++ own, @Ne Nat p.1 q.1) →
      wpAny (model prog w) A (eval kx (compEnvC scope cl C env)) (fun kv s₃ => wpAny (model prog w) A (eval vx (compEnvC scope cl C env)) (fun y s₄ => ∃ k t, kv = .int k t ∧ DCompEnd h₀ L m Led ys (J (i + 1)) (fix ++ own) (stored (ys c) k y) { s with heap := h, toks := tk } s₄) E' s₃) E' { s with heap := h, toks := tk })
    (done : ∀ D oD c h' tk, J vs.length c → (ys c).length ≤ vs.length → Obj.IsDictOf (intKind prog w) oD (ys c) → @LT.lt Nat _ L D → Fr h₀ L h' (mf D) → News h₀ L h' ((D, oD) :: (Led c ++ fix)) → (∀ p ∈ Led c ++ fix, @Ne Nat p.1 D) → (∀ q ∈ Led c, ∀ p ∈ fix, @Ne Nat p.1 q.1) → Fin D { s with heap := h', toks := tk }) :
    wpAny (model prog w) A (pyIter (.ref l)) (fun it s₂ => DCompAt prog w A h₀ L m env kx vx x scope cl mf Fin it s₂) E s := by
  have hlt : l < s.heap.objs.size := by obtain ⟨_, e, _⟩ := hl; exact Heap.lt_size e
  refine wpAny_pyIter_list hl ?_
  have up : ∀ b o, s.heap.get? b = some o → (s.heap.push { cls := .type "list_iterator", data := .fields #[.ref l, .int 0 0] }).get? b = some o := fun b o e => Heap.get?_push_of_some _ e
  have W := Walks.list (prog := prog) (w := w) hh s.heap.objs.size l (Nat.ne_of_lt hlt) vs.toArray
  have hz : vs.toArray.size = vs.length := by simp
  rw [hz] at W
  have hLlt := F.ns.lt
  refine dcomp_of (s := { s with heap := s.heap.push { cls := .type "list_iterator", data := .fields #[.ref l, .int 0 0] } }) Led ys J c₀ fix W hsz ?_ (next_is_new F) (fun b hb => ?_) ⟨⟨_, Heap.get?_push_size _ rfl, rfl, rfl⟩, hl.push _⟩ ?_ (F.keeps up) (N.grown up) hin
    (fun p hp => Nat.ne_of_lt (Heap.lt_size (N p (hin p hp)).1)) hoff (fun p hp hb => ?_) hy0 hj (fun i v c h tk own C oC m₂ E' hP hi => turn i v c h tk own C oC m₂ E' (by simpa using hP) hi) done
  · intro hb
    rcases List.mem_cons.mp hb with e | hb
    · exact Nat.lt_irrefl _ (e ▸ hLlt)
    · exact hlL (List.mem_singleton.mp hb).symm
  · show b < (s.heap.push _).objs.size
    rw [Heap.size_push]
    rcases List.mem_cons.mp hb with rfl | hb
    · exact Nat.lt_succ_self _
    · rw [List.mem_singleton.mp hb]; exact Nat.lt_succ_of_lt hlt
  · rintro i h ⟨⟨o1, ho1, _⟩, ⟨o2, ho2, _⟩⟩ b hb
    rcases List.mem_cons.mp hb with rfl | hb
    · exact ⟨_, ho1⟩
    · rw [List.mem_singleton.mp hb]; exact ⟨_, ho2⟩
  · rcases List.mem_cons.mp hb with e | hb
    · exact Nat.ne_of_lt (Heap.lt_size (N p (hin p (List.mem_append_left _ hp))).1) e
    · exact hll p hp (List.mem_singleton.mp hb)

end
end Mine
namespace Mine
noncomputable def KOk (lt : Nat → Nat → Bool) (P : Nat → Prop) {α : Type} : KasT α → (α → Prop) → Prop
  | .ret a, Q => Q a
  | .ask i j k, Q => P i ∧ P j ∧ KOk lt P (k (lt i j)) Q
section
variable {lt : Nat → Nat → Bool} {P : Nat → Prop}
theorem KOk.mono {α : Type} {Q Q' : α → Prop} (hq : ∀ a, Q a → Q' a) : ∀ (t : KasT α), KOk lt P t Q → KOk lt P t Q'
  | .ret a, h => hq a h
  | .ask _ _ k, h => ⟨h.1, h.2.1, KOk.mono hq (k _) h.2.2⟩
theorem KOk.bind {α β : Type} {f : α → KasT β} {Q : β → Prop} : ∀ (t : KasT α), KOk lt P t (fun a => KOk lt P (f a) Q) → KOk lt P (t.bind f) Q
  | .ret _, h => h
  | .ask _ _ k, h => ⟨h.1, h.2.1, KOk.bind (k _) h.2.2⟩
theorem KOk.go {α : Type} {cmp : Nat → Nat → (Bool → Shared → Prop) → Shared → Prop} {Inv : Shared → Prop} {Q : α → Prop} {G : α → Shared → Prop}
    (hc : ∀ i j C s, P i → P j → Inv s → (∀ s', Inv s' → C (lt i j) s') → cmp i j C s) (hG : ∀ a s, Inv s → Q a → G a s) : ∀ (t : KasT α) (s : Shared), Inv s → KOk lt P t Q → t.kasWp cmp G s
  | .ret a, s, hs, h => hG a s hs h
  | .ask i j k, s, hs, h => hc i j _ s h.1 h.2.1 hs fun s' hs' => KOk.go hc hG (k _) s' hs' h.2.2
structure Tot (lt : Nat → Nat → Bool) (P : Nat → Prop) : Prop where
  tot : ∀ i j, P i → P j → i ≠ j → lt i j = false → lt j i = true
  tr : ∀ i j k, P i → P j → P k → lt i j = true → lt j k = true → lt i k = true
variable {n : Nat} {p : Array Nat}
noncomputable abbrev at0 (p : Array Nat) (i : Nat) : Nat := p.getD i 0
structure Good (P : Nat → Prop) (n : Nat) (p : Array Nat) : Prop where
  size : p.size = n
  in_ : ∀ i, i < n → P (at0 p i)
  ne : ∀ i j, i < n → j < n → i ≠ j → at0 p i ≠ at0 p j
noncomputable def Asc (lt : Nat → Nat → Bool) (p : Array Nat) (m : Nat) : Prop := ∀ a b, a < b → b < m → lt (at0 p a) (at0 p b) = true
noncomputable def Des (lt : Nat → Nat → Bool) (p : Array Nat) (m : Nat) : Prop := ∀ a b, a < b → b < m → lt (at0 p b) (at0 p a) = true
theorem at0_eq {p q : Array Nat} {i j : Nat} (h : p[i]? = q[j]?) : at0 p i = at0 q j := by
  unfold at0; rw [Array.getD_eq_getD_getElem?, Array.getD_eq_getD_getElem?, h]
theorem Asc.up (T : Tot lt P) (G : Good P n p) {m : Nat} (h : Asc lt p m) (h1 : 1 ≤ m) (hm : m < n) (hl : lt (at0 p (m - 1)) (at0 p m) = true) : Asc lt p (m + 1) := by
  intro a b hab hb
  by_cases e : b < m
  · exact h a b hab e
  · have : b = m := by omega
    subst this
    by_cases e2 : a = b - 1
    · subst e2; exact hl
    · exact T.tr _ _ _ (G.in_ a (by omega)) (G.in_ (b - 1) (by omega)) (G.in_ b hm) (h a (b - 1) (by omega) (by omega)) hl
theorem Des.up (T : Tot lt P) (G : Good P n p) {m : Nat} (h : Des lt p m) (h1 : 1 ≤ m) (hm : m < n) (hl : lt (at0 p m) (at0 p (m - 1)) = true) : Des lt p (m + 1) := by
  intro a b hab hb
  by_cases e : b < m
  · exact h a b hab e
  · have : b = m := by omega
    subst this
    by_cases e2 : a = b - 1
    · subst e2; exact hl
    · exact T.tr _ _ _ (G.in_ b hm) (G.in_ (b - 1) (by omega)) (G.in_ a (by omega)) hl (h a (b - 1) (by omega) (by omega))
theorem asc_ok (T : Tot lt P) (G : Good P n p) : ∀ (f a : Nat), 1 ≤ a → a + f ≤ n → Asc lt p a →
    KOk lt P (kas_asc p f a) (fun m => a ≤ m ∧ m ≤ a + f ∧ Asc lt p m ∧ (m = a + f ∨ lt (at0 p m) (at0 p (m - 1)) = true)) := by
  intro f
  induction f with
  | zero => intro a h1 h2 h3; exact ⟨Nat.le_refl _, Nat.le_refl _, h3, .inl rfl⟩
  | succ f ih =>
    intro a h1 h2 h3
    refine ⟨G.in_ a (by omega), G.in_ (a - 1) (by omega), ?_⟩
    cases hl : lt (at0 p a) (at0 p (a - 1)) with
    | true =>
      show KOk lt P (if true = true then KasT.ret a else kas_asc p f (a + 1)) _
      rw [if_pos rfl]
      exact ⟨Nat.le_refl _, by omega, h3, .inr hl⟩
    | false =>
      show KOk lt P (if false = true then KasT.ret a else kas_asc p f (a + 1)) _
      rw [if_neg (by simp)]
      have hl2 := T.tot _ _ (G.in_ a (by omega)) (G.in_ (a - 1) (by omega)) (G.ne _ _ (by omega) (by omega) (by omega)) hl
      refine KOk.mono ?_ _ (ih (a + 1) (by omega) (by omega) (h3.up T G h1 (by omega) hl2))
      rintro m ⟨q1, q2, q3, q4⟩
      exact ⟨by omega, by omega, q3, q4.imp (fun e => by omega) id⟩
theorem desc_ok (T : Tot lt P) (G : Good P n p) : ∀ (f a : Nat), 1 ≤ a → a + f ≤ n → Des lt p a →
    KOk lt P (kas_desc f p a 0) (fun r => r.1 = p ∧ r.2.2 = 0 ∧ a ≤ r.2.1 ∧ r.2.1 ≤ a + f ∧ Des lt p r.2.1) := by
  intro f
  induction f with
  | zero => intro a h1 h2 h3; exact ⟨rfl, rfl, Nat.le_refl _, Nat.le_refl _, h3⟩
  | succ f ih =>
    intro a h1 h2 h3
    refine ⟨G.in_ a (by omega), G.in_ (a - 1) (by omega), ?_⟩
    cases hl : lt (at0 p a) (at0 p (a - 1)) with
    | true =>
      show KOk lt P (if true = true then (if (0 : Nat) > 0 then kas_desc f (kas_rev p (a - (0 + 1)) a) (a + 1) 0 else kas_desc f p (a + 1) 0) else _) _
      rw [if_pos rfl, if_neg (by omega)]
      refine KOk.mono ?_ _ (ih (a + 1) (by omega) (by omega) (h3.up T G h1 (by omega) hl))
      rintro m ⟨q1, q2, q3, q4, q5⟩
      exact ⟨q1, q2, by omega, by omega, q5⟩
    | false =>
      have hl2 := T.tot _ _ (G.in_ a (by omega)) (G.in_ (a - 1) (by omega)) (G.ne _ _ (by omega) (by omega) (by omega)) hl
      show KOk lt P (if false = true then _ else KasT.ask (p.getD (a - 1) 0) (p.getD a 0) fun d => if d = true then .ret (p, a, 0) else kas_desc f p (a + 1) (0 + 1)) _
      rw [if_neg (by simp)]
      refine ⟨G.in_ (a - 1) (by omega), G.in_ a (by omega), ?_⟩
      show KOk lt P (if lt (at0 p (a - 1)) (at0 p a) = true then .ret (p, a, 0) else kas_desc f p (a + 1) (0 + 1)) _
      rw [if_pos hl2]
      exact ⟨rfl, rfl, Nat.le_refl _, Nat.le_add_right _ _, h3⟩
theorem rev_at (G : Good P n p) {m i : Nat} (hm : m ≤ n) : at0 (kas_rev p 0 m) i = if i < m then at0 p (m - 1 - i) else at0 p i := by
  have h := getElem?_mirror_all (xs := p) (i := 0) (j := m) (by rw [G.size]; exact hm) i
  by_cases hi : i < m
  · rw [if_pos hi]
    rw [if_pos ⟨Nat.zero_le _, hi⟩] at h
    exact at0_eq (h.trans (by congr 1; omega))
  · rw [if_neg hi]
    rw [if_neg (by omega)] at h
    exact at0_eq h
theorem Good.rev (G : Good P n p) {m : Nat} (hm : m ≤ n) : Good P n (kas_rev p 0 m) where
  size := (kas_rev_size _ _).trans G.size
  in_ := fun i hi => by rw [rev_at G hm]; split <;> exact G.in_ _ (by omega)
  ne := fun i j hi hj hij => by
    rw [rev_at G hm, rev_at G hm]
    split <;> split <;> exact G.ne _ _ (by omega) (by omega) (by omega)
theorem Des.rev (G : Good P n p) {m : Nat} (hm : m ≤ n) (h : Des lt p m) : Asc lt (kas_rev p 0 m) m := by
  intro a b hab hb
  rw [rev_at G hm, rev_at G hm, if_pos (by omega), if_pos hb]
  exact h _ _ (by omega) (by omega)
noncomputable def CountQ (lt : Nat → Nat → Bool) (P : Nat → Prop) (n : Nat) (r : Nat × Array Nat) : Prop := 1 ≤ r.1 ∧ r.1 ≤ n ∧ Good P n r.2 ∧ Asc lt r.2 r.1
theorem count_ok (T : Tot lt P) (G : Good P n p) (h1 : 1 ≤ n) : KOk lt P (kas_count n p) (CountQ lt P n) := by
  unfold kas_count
  refine KOk.bind _ (KOk.mono ?_ _ (asc_ok T G (n - 1) 1 (Nat.le_refl _) (by omega) (fun a b hab hb => by omega)))
  rintro m ⟨q1, q2, q3, q4⟩
  have hmn : m ≤ n := by omega
  by_cases e : (m == n) = true
  · rw [if_pos e]
    exact ⟨q1, hmn, G, q3⟩
  · rw [if_neg e]
    have hlt : m < n := by
      have : m ≠ n := fun q => e (by rw [q]; exact beq_self_eq_true _)
      omega
    by_cases e2 : m > 1
    · rw [if_pos e2]
      refine ⟨G.in_ 0 (by omega), G.in_ (m - 1) (by omega), ?_⟩
      show KOk lt P (if lt (at0 p 0) (at0 p (m - 1)) = true then KasT.ret (m, p) else kas_descPart m n (kas_rev p 0 m)) _
      rw [if_pos (q3 0 (m - 1) (by omega) (by omega))]
      exact ⟨q1, hmn, G, q3⟩
    · rw [if_neg e2]
      have em : m = 1 := by omega
      subst em
      have hl : lt (at0 p 1) (at0 p 0) = true := by
        rcases q4 with q4 | q4
        · omega
        · exact q4
      have hd : Des lt p 2 := fun a b hab hb => by
        have ha : a = 0 := by omega
        have hb' : b = 1 := by omega
        subst ha hb'; exact hl
      unfold kas_descPart
      refine KOk.bind _ (KOk.mono ?_ _ (desc_ok T G (n - (1 + 1)) (1 + 1) (by omega) (by omega) hd))
      rintro ⟨p', k, q⟩ ⟨rfl, rfl, r1, r2, r3⟩
      dsimp only at r1 r2 r3 ⊢
      rw [if_neg (by omega)]
      unfold kas_tail3
      refine KOk.bind _ (KOk.mono ?_ _ (asc_ok T (G.rev (by omega)) (n - k) k (by omega) (by omega) (r3.rev G (by omega))))
      rintro m ⟨s1, s2, s3, _⟩
      exact ⟨by omega, by omega, G.rev (by omega), s3⟩
theorem place_ok (T : Tot lt P) (G : Good P n p) {k : Nat} (hk : k < n) (hs : Asc lt p k) : ∀ (f l r : Nat), l ≤ r → r ≤ k → r - l ≤ f → (∀ i, i < l → lt (at0 p i) (at0 p k) = true) → (∀ i, r ≤ i → i < k → lt (at0 p k) (at0 p i) = true) →
    KOk lt P (kas_place p k f l r) (fun m => m ≤ k ∧ (∀ i, i < m → lt (at0 p i) (at0 p k) = true) ∧ (∀ i, m ≤ i → i < k → lt (at0 p k) (at0 p i) = true)) := by
  intro f
  induction f with
  | zero =>
    intro l r h1 h2 h3 h4 h5
    have : l = r := by omega
    subst this
    exact ⟨h2, h4, h5⟩
  | succ f ih =>
    intro l r h1 h2 h3 h4 h5
    unfold kas_place
    by_cases hlr : l ≥ r
    · rw [if_pos hlr]
      have : l = r := by omega
      subst this
      exact ⟨h2, h4, h5⟩
    · rw [if_neg hlr]
      refine ⟨G.in_ k hk, G.in_ _ (by omega), ?_⟩
      generalize hm : (l + r) / 2 = c
      have hc1 : l ≤ c := by omega
      have hc2 : c < r := by omega
      cases hl : lt (at0 p k) (at0 p c) with
      | true =>
        dsimp only
        rw [if_pos rfl]
        refine ih l c hc1 (by omega) (by omega) h4 fun i hi1 hi2 => ?_
        by_cases e : i = c
        · subst e; exact hl
        · exact T.tr _ _ _ (G.in_ k hk) (G.in_ c (by omega)) (G.in_ i (by omega)) hl (hs c i (by omega) hi2)
      | false =>
        dsimp only
        rw [if_neg (by simp)]
        have hl2 := T.tot _ _ (G.in_ k hk) (G.in_ c (by omega)) (G.ne _ _ hk (by omega) (by omega)) hl
        refine ih (c + 1) r (by omega) h2 (by omega) (fun i hi => ?_) h5
        by_cases e : i = c
        · subst e; exact hl2
        · exact T.tr _ _ _ (G.in_ i (by omega)) (G.in_ c (by omega)) (G.in_ k hk) (hs i c (by omega) (by omega)) hl2
theorem bub_at (G : Good P n p) {k l i : Nat} (hk : k < n) (hl : l ≤ k) : at0 (bubble p k (k - l)) i = if i = l then at0 p k else if l < i ∧ i ≤ k then at0 p (i - 1) else at0 p i := by
  have h := getElem?_bubble (xs := p) (src := k) (by rw [G.size]; exact hk) (k - l) (by omega) i
  rw [show k - (k - l) = l by omega] at h
  split
  · rename_i e; rw [if_pos e] at h; exact at0_eq h
  · rename_i e
    rw [if_neg e] at h
    split
    · rename_i e2; rw [if_pos e2] at h; exact at0_eq h
    · rename_i e2; rw [if_neg e2] at h; exact at0_eq h
theorem Good.bub (G : Good P n p) {k l : Nat} (hk : k < n) (hl : l ≤ k) : Good P n (bubble p k (k - l)) where
  size := (bubble_size _ _ _).trans G.size
  in_ := fun i hi => by
    rw [bub_at G hk hl]
    repeat' split
    all_goals exact G.in_ _ (by omega)
  ne := fun i j hi hj hij => by
    rw [bub_at G hk hl, bub_at G hk hl]
    repeat' split
    all_goals first | exact G.ne _ _ (by omega) (by omega) (by omega) | (exfalso; omega)
theorem bin_ok (T : Tot lt P) : ∀ (f : Nat) (p : Array Nat) (k : Nat), Good P n p → k + f ≤ n → Asc lt p k → KOk lt P (kas_bin f p k) (fun q => Good P n q ∧ Asc lt q (k + f)) := by
  intro f
  induction f with
  | zero => intro p k G h1 h2; exact ⟨G, h2⟩
  | succ f ih =>
    intro p k G h1 h2
    have hk : k < n := by omega
    unfold kas_bin
    refine KOk.bind _ (KOk.mono ?_ _ (place_ok T G hk h2 k 0 k (Nat.zero_le _) (Nat.le_refl _) (by omega) (fun i hi => by omega) (fun i h3 h4 => by omega)))
    rintro l ⟨r1, r2, r3⟩
    have h4 : Asc lt (bubble p k (k - l)) (k + 1) := by
      intro a b hab hb
      rw [bub_at G hk r1, bub_at G hk r1]
      by_cases ea : a = l
      · rw [if_pos ea, if_neg (by omega), if_pos (by omega)]
        exact r3 _ (by omega) (by omega)
      · rw [if_neg ea]
        by_cases eb : b = l
        · rw [if_pos eb, if_neg (by omega)]
          exact r2 _ (by omega)
        · rw [if_neg eb]
          by_cases ea2 : l < a ∧ a ≤ k
          · rw [if_pos ea2, if_pos (by omega)]
            exact h2 _ _ (by omega) (by omega)
          · rw [if_neg ea2]
            by_cases eb2 : l < b ∧ b ≤ k
            · rw [if_pos eb2]; exact h2 _ _ (by omega) (by omega)
            · rw [if_neg eb2]; exact h2 _ _ (by omega) (by omega)
    refine KOk.mono ?_ _ (ih _ (k + 1) (G.bub hk r1) (by omega) h4)
    rintro q ⟨q1, q2⟩
    exact ⟨q1, by rw [show k + (f + 1) = k + 1 + f by omega]; exact q2⟩
theorem sort_ok (T : Tot lt fun i => i < n) (h1 : 1 ≤ n) : KOk lt (fun i => i < n) (kas_sort n) (fun q => Good (fun i => i < n) n q ∧ Asc lt q n) := by
  have at_ : ∀ i, i < n → at0 (List.toArray (List.range n)) i = i := fun i hi => by
    unfold at0; simp [Array.getD, hi]
  have G : Good (fun i => i < n) n (List.toArray (List.range n)) :=
    ⟨by simp, fun i hi => by rw [at_ i hi]; exact hi, fun i j hi hj hij => by rw [at_ i hi, at_ j hj]; exact hij⟩
  unfold kas_sort
  refine KOk.bind _ (KOk.mono ?_ _ (count_ok T G h1))
  rintro ⟨m, p⟩ ⟨q1, q2, q3, q4⟩
  dsimp only at q1 q2 q3 q4 ⊢
  by_cases e : m < n
  · rw [if_pos e]
    rw [show max m 1 = m by omega]
    refine KOk.mono ?_ _ (bin_ok T (n - m) p m q3 (by omega) q4)
    rintro q ⟨r1, r2⟩
    rw [show m + (n - m) = n by omega] at r2
    exact ⟨r1, r2⟩
  · rw [if_neg e]
    have : m = n := by omega
    subst this
    exact ⟨q3, q4⟩
end
theorem good_list {n : Nat} {p : Array Nat} (G : Good (fun i => i < n) n p) : p.toList.Perm (List.range n) := by
  have hl : p.toList.length = n := by rw [Array.length_toList]; exact G.size
  have ge : ∀ i (hi : i < n), at0 p i = p.toList[i]'(by omega) := fun i hi => by
    unfold at0; have : i < p.size := by rw [G.size]; exact hi
    simp [Array.getD, this]
  have nd : p.toList.Nodup := by
    rw [List.nodup_iff_pairwise_ne, List.pairwise_iff_getElem]
    intro i j hi hj hij e
    refine G.ne i j (by omega) (by omega) (by omega) ?_
    rw [ge i (by omega), ge j (by omega)]; exact e
  have sub : ∀ x ∈ p.toList, x < n := by
    intro x hx
    obtain ⟨i, hi, e⟩ := List.mem_iff_getElem.mp hx
    have := G.in_ i (by omega)
    rw [ge i (by omega), e] at this; exact this
  refine (List.perm_ext_iff_of_nodup nd List.nodup_range).mpr fun x => ⟨fun h => List.mem_range.mpr (sub x h), fun h => ?_⟩
  refine Classical.byContradiction fun hx => ?_
  have hxn := List.mem_range.mp h
  -- n names out of n - 1
  have h2 : (x :: p.toList).Nodup := List.nodup_cons.mpr ⟨hx, nd⟩
  have h3 := nodup_len h2 (fun y hy => by rcases List.mem_cons.mp hy with rfl | hy; exact hxn; exact sub y hy)
  rw [List.length_cons, hl] at h3; omega
theorem asc_list {n : Nat} {lt : Nat → Nat → Bool} {p : Array Nat} (G : Good (fun i => i < n) n p) (h : Asc lt p n) : p.toList.Pairwise fun a b => lt a b = true := by
  have ge : ∀ i (hi : i < p.toList.length), at0 p i = p.toList[i] := fun i hi => by
    unfold at0; have : i < p.size := by simpa using hi
    simp [Array.getD, this]
  rw [List.pairwise_iff_getElem]
  intro i j hi hj hij
  have hj' : j < n := by rw [← G.size]; simpa using hj
  rw [← ge i hi, ← ge j hj]
  exact h i j hij hj'
end Mine
namespace Mine
noncomputable def RW (prog : Program) (w : World) (K : Frag) (f : Addr) (vals : List Value) (n : Nat) (pre : Heap → Heap → Prop) (post : Heap → Heap → Heap → Value → Prop) : Prop :=
  ∀ (A : Around) (s : Shared) (g : Heap) (Q E : Value → Shared → Prop), Here K A g → g.StaysIn s.heap → g.objs.size ≤ s.heap.objs.size → Room A n → pre g s.heap →
    (∀ (h' : Heap) (tk' : Nat) (r : Value), g.StaysIn h' → post g s.heap h' r → Q r { s with heap := h', toks := tk' }) →
    wpAny (model prog w) A (call (.ref f) vals) Q E s
noncomputable def Hid (g h : Heap) (l : List (Addr × Obj)) : Prop := ∀ p ∈ l, h.get? p.1 = some p.2 ∧ g.get? p.1 = none
theorem Hid.nil {g h : Heap} : Hid g h [] := fun _ hp => nomatch hp
theorem Hid.sub {g h : Heap} {l l' : List (Addr × Obj)} (H : Hid g h l) (hs : ∀ p ∈ l', p ∈ l) : Hid g h l' := fun p hp => H p (hs p hp)
theorem Hid.app {g h : Heap} {l l' : List (Addr × Obj)} (H : Hid g h l) (H' : Hid g h l') : Hid g h (l ++ l') := fun p hp => (List.mem_append.mp hp).elim (H p) (H' p)
theorem hid_of {g h : Heap} {L : Addr} {l : List (Addr × Obj)} (N : News g L h l) : Hid g h l := fun p hp => ⟨(N p hp).1, (N p hp).2.2⟩

section
variable {prog : Program} {w : World} {A : Around} {s : Shared} {g : Heap} {K : Frag}
  {name qual : Str} {params : Arguments} {body : List Stmt} {scope : Scope} {dV kV doc pm cdv ct oc : Value} {an od : Option Addr} {osl : Array (Option Value)} {f : Addr} {vals : List Value} {Q E : Value → Shared → Prop} {n : Nat} {hid : List (Addr × Obj)}

theorem call_ownG (H : Here K A g) (hst : g.StaysIn s.heap) (hsz : g.objs.size ≤ s.heap.objs.size) (hr : Room A (n + 1)) (hh : Hid g s.heap hid)
    (ho : K.lookup f = some ⟨oc, od, .func (fnOf name qual params body scope dV kV doc pm an cdv ct), osl⟩) (hcd : codeIn K cdv qual = true)
    (hbind : BindsTo s (fnOf name qual params body scope dV kV doc pm an cdv ct) ⟨vals, []⟩ ((params.args.map (·.arg)).zip vals)) (hloc : ∀ y ∈ (params.args.map (·.arg)).zip vals, scope.names.lookup y.1 = some .local)
    (h : ∀ (A₀ : Around) (base : Heap) (outer : List Env) (p : Program) (loose : List Str) (mean : ExcName → Option Value) (mg mb : Str → Option Value) (d u : Nat) (gd : Option (List Code)) (L' : Addr) (h₁ : Heap) (tk₁ : Nat),
      Below A₀ base outer g → K.In g → Top p loose mean mg mb g → Fr g L' h₁ (fun y => ((params.args.map (·.arg)).zip vals).reverse.lookup y) → News g L' h₁ hid → (∀ p ∈ hid, p.1 < L') → d + n < recursionLimit → u + 8 * n + 200 < cLine →
      wpAny (model prog w) (arnd d (envOf qual scope L' f cdv) outer gd u) (execs body (envOf qual scope L' f cdv))
        (fun fl s' => Q (match fl with | .ret v => v | _ => .none) s') (fun _ _ => False) { s with heap := h₁, toks := tk₁ })
    (hco : scope.isCoroutine = false) (hgen : scope.isGenerator = false) (hk : scope.kind = .function)
    (hcell : ∀ x ∈ scope.names, x.2 ≠ .cell) : wpAny (model prog w) A (call (.ref f) vals) Q E s := by
  obtain ⟨X, hhd, A₀, base, h₀, outer, env, L, m, p, loose, mean, mg, mb, B, F, T, hA, hf, hke⟩ := H
  have G2 : Below A base (env :: outer) g := by
    have G := groundX (s := { s with heap := g }) (R := fun _ _ => True) (news := []) B F News.nil hA hf hke
    exact G.2.1
  refine wpAny_call (codeAny_call_def (fd := fnOf name qual params body scope dV kV doc pm an cdv ct) (body := body) (binds := (params.args.map (·.arg)).zip vals) (Nat.lt_of_le_of_lt (Nat.le_add_right _ _) hr.1) (hst _ _ (X _ _ ho)) rfl (T.nolimit.keeps hst) ((codeRec_of X hcd).keeps hst) rfl hbind hcell hloc (fun h₁ hns hk₁ => ?_) hco hgen hk)
  have hd : A.deeper (envOf qual scope s.heap.objs.size f cdv) = arnd (A.depth + 1) (envOf qual scope s.heap.objs.size f cdv) (env :: outer) A.guards (A.units + 3) := by
    obtain ⟨hd, dp, fr, gs, u⟩ := A
    simp only at hhd hA
    subst hhd hA
    rfl
  have key := h A base (env :: outer) p loose mean mg mb (A.depth + 1) (A.units + 3) A.guards s.heap.objs.size h₁ (s.toks + ((params.args.map (·.arg)).zip vals).length) G2 X T ⟨hns, fun b o e => hk₁ b o (hst b o e), hsz⟩
    (fun p hp => ⟨hk₁ _ _ (hh p hp).1, Nat.ne_of_lt (Heap.lt_size (hh p hp).1), (hh p hp).2⟩) (fun p hp => Heap.lt_size (hh p hp).1) (by have := hr.1; omega) (by have := hr.2; omega)
  rw [← hd] at key
  exact wpAny_mono key (fun _ _ q => q) fun _ _ q => q.elim

theorem call_ownGC (H : Here K A g) (hst : g.StaysIn s.heap) (hsz : g.objs.size ≤ s.heap.objs.size) (hr : Room A (n + 1)) (hh : Hid g s.heap hid)
    (ho : K.lookup f = some ⟨oc, od, .func (fnOf name qual params body scope dV kV doc pm an cdv ct), osl⟩) (hcd : codeIn K cdv qual = true)
    (hbind : BindsTo s (fnOf name qual params body scope dV kV doc pm an cdv ct) ⟨vals, []⟩ ((params.args.map (·.arg)).zip vals)) (hkind : (((params.args.map (·.arg)).zip vals).all fun y => scope.names.lookup y.1 == some .local || scope.names.lookup y.1 == some .cell) = true)
    (hnd : ((cellsFrom 0 scope.names []).map (·.1)).Nodup)
    (h : ∀ (A₀ : Around) (base : Heap) (outer : List Env) (p : Program) (loose : List Str) (mean : ExcName → Option Value) (mg mb : Str → Option Value) (d u : Nat) (gd : Option (List Code)) (L' : Addr) (h₁ : Heap) (tk₁ : Nat) (cells : List (Addr × Obj)),
      Below A₀ base outer g → K.In g → Top p loose mean mg mb g → Fr g L' h₁ (bindL (envOfC qual scope L' f cdv).kindOf ((params.args.map (·.arg)).zip vals) fun _ => none) → News g L' h₁ (cells ++ hid) → (∀ p ∈ hid, p.1 < L') →
      CellsAre (bindC (envOfC qual scope L' f cdv).kindOf ((params.args.map (·.arg)).zip vals) fun _ => none) (cellsFrom (L' + 1) scope.names []) cells → d + n < recursionLimit → u + 8 * n + 200 < cLine →
      wpAny (model prog w) (arnd d (envOfC qual scope L' f cdv) outer gd u) (execs body (envOfC qual scope L' f cdv))
        (fun fl s' => Q (match fl with | .ret v => v | _ => .none) s') (fun _ _ => False) { s with heap := h₁, toks := tk₁ })
    (hco : scope.isCoroutine = false) (hgen : scope.isGenerator = false) (hk : scope.kind = .function) : wpAny (model prog w) A (call (.ref f) vals) Q E s := by
  obtain ⟨X, hhd, A₀, base, h₀, outer, env, L, m, p, loose, mean, mg, mb, B, F, T, hA, hf, hke⟩ := H
  have G2 : Below A base (env :: outer) g := by
    have G := groundX (s := { s with heap := g }) (R := fun _ _ => True) (news := []) B F News.nil hA hf hke
    exact G.2.1
  refine wpAny_call (codeAny_call_function (Nat.lt_of_le_of_lt (Nat.le_add_right _ _) hr.1) (hst _ _ (X _ _ ho)) rfl hco hgen rfl ((codeRec_of X hcd).keeps hst) (hbind _ _ _ _ ?_))
  refine wpAny_newFunctionEnv_cells hk (kindsX hkind _) fun env' he s' x => ?_
  subst he
  refine ⟨(T.nolimit.keeps hst).keeps x.toInCall.keep, codeAny_func ?_⟩
  obtain ⟨h₁, tk, rfl, _⟩ := x.done
  have hk₁ := x.toInCall.keep
  obtain ⟨cells, NC, Y⟩ := Cl.news (h₀ := s.heap) (Nat.le_refl _) fun n c hm => ⟨x.cell n c (lookup_of_mem_nodup (cellsFrom_names scope.names 0 (s.heap.objs.size + 1) [] [] rfl ▸ hnd) hm), x.above n c hm⟩
  have hd : A.deeper (envOfC qual scope s.heap.objs.size f cdv) = arnd (A.depth + 1) (envOfC qual scope s.heap.objs.size f cdv) (env :: outer) A.guards (A.units + 3) := by
    obtain ⟨hd, dp, fr, gs, u⟩ := A
    simp only at hhd hA
    subst hhd hA
    rfl
  have key := h A base (env :: outer) p loose mean mg mb (A.depth + 1) (A.units + 3) A.guards s.heap.objs.size h₁ tk cells G2 X T ⟨x.toInCall.ns, fun b o e => hk₁ b o (hst b o e), hsz⟩ (fun p hp => by
      rcases List.mem_append.mp hp with hp | hp
      · refine ⟨(NC p hp).1, (NC p hp).2.1, ?_⟩
        cases q : g.get? p.1 with
        | none => rfl
        | some o => have := hst _ _ q; rw [(NC p hp).2.2] at this; cases this
      · exact ⟨hk₁ _ _ (hh p hp).1, Nat.ne_of_lt (Heap.lt_size (hh p hp).1), (hh p hp).2⟩) (fun p hp => Heap.lt_size (hh p hp).1) Y (by have := hr.1; omega) (by have := hr.2; omega)
  rw [← hd] at key
  exact wpAny_mono key (fun _ _ q => q) fun _ _ q => q.elim
end

section
variable {prog : Program} {w : World} {K : Frag} {A₀ : Around} {base g : Heap} {outer : List Env} {p : Program} {loose : List Str} {mean : ExcName → Option Value} {mg mb : Str → Option Value} {d u : Nat} {gd : Option (List Code)} {L : Addr} {m : Str → Option Value} {env : Env}
  {f : Addr} {vals : List Value} {n k : Nat} {pre : Heap → Heap → Prop} {post : Heap → Heap → Heap → Value → Prop} {s : Shared} {Q E : Value → Shared → Prop} {news : List (Addr × Obj)}
theorem rw_use (S : RW prog w K f vals n pre post) (B : Below A₀ base outer g) (X : K.In g) (T : Top p loose mean mg mb g) (F : Fr g L s.heap m) (N : News g L s.heap news) (hd : d + n < recursionLimit) (hu : u + 8 * n + 200 < cLine)
    (hid rest : List (Addr × Obj)) (h1 : ∀ p ∈ hid, p ∈ news) (h2 : ∀ p ∈ rest, p ∈ news) (h3 : ∀ p ∈ rest, ∀ q ∈ hid, @Ne Nat p.1 q.1)
    (hp : ∀ g', g.StaysIn g' → Hid g' s.heap hid → (∀ p ∈ rest, g'.get? p.1 = some p.2) → g'.StaysIn s.heap → pre g' s.heap)
    (h : ∀ (g' h' : Heap) (tk' : Nat) (r : Value), Fr g L h' m → News g L h' rest → g.StaysIn g' → (∀ l, Hid g' h' l → News g L h' l) → (∀ p ∈ rest, g'.get? p.1 = some p.2) → post g' s.heap h' r → Q r { s with heap := h', toks := tk' })
    (hf : env.frame = some L) (hk : env.scope.kind = .function) :
    wpAny (model prog w) (arnd d env outer gd u) (call (.ref f) vals) Q E s := by
  have Nh : News g L s.heap hid := fun q hq => N q (h1 q hq)
  have G := groundX (R := fun _ _ => True) (A := arnd d env outer gd u) B F Nh rfl hf hk
  obtain ⟨FG, BG, st, _⟩ := G
  have stS : (hideAll s.heap (hid.map (·.1))).StaysIn s.heap := fun b o e => of_hideAll _ e
  have kp : ∀ q ∈ rest, (hideAll s.heap (hid.map (·.1))).get? q.1 = some q.2 := fun q hq => hideAll_get _ (N q (h2 q hq)).1 fun hm => by
    obtain ⟨x, hx, e⟩ := List.mem_map.mp hm
    exact h3 q hq x hx e.symm
  have hH : Hid (hideAll s.heap (hid.map (·.1))) s.heap hid := fun q hq => ⟨(Nh q hq).1, hideAll_none _ (List.mem_map_of_mem hq)⟩
  refine S _ s (hideAll s.heap (hid.map (·.1))) Q E ⟨X.keeps (fun b o e => st b o e), rfl, A₀, base, g, outer, env, L, m, p, loose, mean, mg, mb, B, FG, T.keeps (fun b o e => st b o e), rfl, hf, hk⟩ stS (Nat.le_of_eq (hideAll_size _ _)) ⟨hd, hu⟩ (hp _ st hH kp stS) fun h' tk' r st' q => ?_
  have F' : Fr g L h' m := ⟨FG.ns.keeps st', fun b o e => st' b o (st b o e), FG.above⟩
  refine h _ h' tk' r F' (fun q hq => ⟨st' _ _ (kp q hq), (N q (h2 q hq)).2⟩) st (fun l hl q hq => ⟨(hl q hq).1, fun e => ?_, ?_⟩) kp q
  · obtain ⟨oL, _, _, hL, _⟩ := FG.ns
    have := (hl q hq).2
    rw [e, hL] at this; cases this
  · cases e : g.get? q.1 with
    | none => rfl
    | some o => have := st _ _ e; rw [(hl q hq).2] at this; cases this
end
inductive TabOK (P : Addr) (line col : Nat) (qual : Str) : List (Addr × Obj) → Prop
  | fresh : TabOK P line col qual [(P, tabObj #[])]
  | made {c' : Addr} {oc : Obj} {vs : Array Value} {t : Tok} : oc.data = .fields vs → vs[1]? = some (.str qual t) → @Ne Nat c' P → TabOK P line col qual [(P, tabObj #[rawInt line, rawInt col, .ref c']), (c', oc)]
end Mine
set_option maxHeartbeats 1000000
namespace Mine
theorem lex_total : ∀ {a b : List Nat}, a ≠ b → lexLt a b = false → lexLt b a = true
  | [], [], h, _ => absurd rfl h
  | [], _ :: _, _, h => by cases h
  | _ :: _, [], _, _ => rfl
  | a :: as, b :: bs, hn, h => by
    simp only [lexLt] at h ⊢
    by_cases e : a = b
    · rw [if_pos e] at h; rw [if_pos e.symm]
      exact lex_total (fun q => hn (by rw [e, q])) h
    · rw [if_neg e] at h; rw [if_neg (Ne.symm e)]
      simp only [decide_eq_true_eq, decide_eq_false_iff_not] at h ⊢; omega
theorem lex_trans : ∀ {a b c : List Nat}, lexLt a b = true → lexLt b c = true → lexLt a c = true
  | [], [], _, h, _ => by cases h
  | [], _ :: _, [], _, h => by cases h
  | [], _ :: _, _ :: _, _, _ => rfl
  | _ :: _, [], _, h, _ => by cases h
  | _ :: _, _ :: _, [], _, h => by cases h
  | a :: as, b :: bs, c :: cs, h1, h2 => by
    simp only [lexLt] at h1 h2 ⊢
    by_cases e1 : a = b
    · subst e1
      rw [if_pos rfl] at h1
      by_cases e2 : a = c
      · subst e2; rw [if_pos rfl] at h2 ⊢; exact lex_trans h1 h2
      · rw [if_neg e2] at h2 ⊢; exact h2
    · rw [if_neg e1] at h1
      by_cases e2 : b = c
      · subst e2; rw [if_neg e1]; exact h1
      · rw [if_neg e2] at h2
        simp only [decide_eq_true_eq] at h1 h2
        rw [if_neg (by omega)]
        simp only [decide_eq_true_eq]; omega
section
variable {prog : Program} {w : World} {A : Around} {E : Value → Shared → Prop} {s : Shared}
theorem katLex_nat {Q : Bool → Shared → Prop} {a : List Nat} : ∀ {xs ys : List Value} {b : List Nat} (i : Nat) (fin : Bool), NV xs a → NV ys b → (∀ k, a.length = k + b.length → fin = false) → (∀ k, b.length = k + 1 + a.length → fin = true) → Q (lexLt a b) s →
    KatLex prog w A true fin Q (xs.zip ys) i s := by
  induction a with
  | nil =>
    intro xs ys b i fin hx hy h1 h2 hq
    cases hx
    cases b with
    | nil =>
      have : fin = false := h1 0 rfl
      subst this; exact hq
    | cons b bs =>
      have : fin = true := h2 bs.length (by simp)
      subst this; exact hq
  | cons a as ih =>
    intro xs ys b i fin hx hy h1 h2 hq
    cases hx with
    | cons _ t r =>
    cases b with
    | nil =>
      cases hy
      have : fin = false := h1 (as.length + 1) (by simp)
      subst this; exact hq
    | cons b bs =>
      cases hy with
      | cons _ u q =>
      rw [List.zip_cons_cons]
      refine kat_cons (wpAny_eqBool_int ?_)
      have e : ((Int.ofNat a : Int) == (Int.ofNat b : Int)) = decide (a = b) := by
        by_cases hab : a = b
        · subst hab; simp
        · simp [hab]; omega
      rw [e]
      by_cases hab : a = b
      · subst hab
        rw [decide_eq_true rfl]
        refine kat_yes (ih (i + 1) fin r q (fun k hk => h1 k (by simp; omega)) (fun k hk => h2 k (by simp; omega)) ?_)
        simp only [lexLt, if_true] at hq; exact hq
      · rw [decide_eq_false hab]
        refine kat_no ?_
        simp only [lexLt, if_neg hab] at hq
        have e2 : decide ((Int.ofNat a : Int) < (Int.ofNat b : Int)) = decide (a < b) := decide_eq_decide.mpr Int.ofNat_lt
        cases hi : (i == 0) with
        | true => exact oneLt_int (by rw [e2]; exact hq)
        | false =>
          refine kat_one _ _ (PyProof.Rows.lt_int ?_)
          rw [e2]; exact hq

theorem idx_inj {l : List Nat} {a b : Nat} (ha : a ∈ l) (hb : b ∈ l) (h : l.idxOf a = l.idxOf b) : a = b := by
  have p1 := List.getElem_idxOf (List.idxOf_lt_length_of_mem ha)
  have p2 := List.getElem_idxOf (List.idxOf_lt_length_of_mem hb)
  rw [← p1, ← p2]
  congr 1
noncomputable def KV (news : List (Addr × Obj)) (ky : Nat → List Nat) : List Nat → List Value → Prop
  | [], [] => True
  | n :: ns, v :: vs => (∃ t us, v = .ref t ∧ (t, tupOf (List.toArray us)) ∈ news ∧ NV us (ky n)) ∧ KV news ky ns vs
  | _, _ => False
theorem KV.length {news : List (Addr × Obj)} {ky : Nat → List Nat} : ∀ {ns : List Nat} {vs : List Value}, KV news ky ns vs → vs.length = ns.length
  | [], [], _ => rfl
  | [], _ :: _, h => h.elim
  | _ :: _, [], h => h.elim
  | _ :: _, _ :: _, h => by simp [KV.length h.2]
theorem KV.get {news : List (Addr × Obj)} {ky : Nat → List Nat} : ∀ {ns : List Nat} {vs : List Value} {i n : Nat}, KV news ky ns vs → ns[i]? = some n → ∃ t us, vs[i]? = some (.ref t) ∧ (t, tupOf (List.toArray us)) ∈ news ∧ NV us (ky n)
  | [], _, _, _, _, h => by simp at h
  | _ :: _, [], _, _, h, _ => h.elim
  | n :: ns, v :: vs, 0, m, h, e => by
    simp at e; subst e
    obtain ⟨⟨t, us, rfl, hm, hu⟩, _⟩ := h
    exact ⟨t, us, rfl, hm, hu⟩
  | n :: ns, v :: vs, i + 1, m, h, e => by
    have e' : ns[i]? = some m := by simpa using e
    obtain ⟨t, us, h1, h2⟩ := KV.get h.2 e'
    exact ⟨t, us, by simpa using h1, h2⟩
theorem KV.snoc {news : List (Addr × Obj)} {ky : Nat → List Nat} : ∀ {ns : List Nat} {vs : List Value} {n : Nat} {v : Value}, KV news ky ns vs → (∃ t us, v = .ref t ∧ (t, tupOf (List.toArray us)) ∈ news ∧ NV us (ky n)) → KV news ky (ns ++ [n]) (vs ++ [v])
  | [], [], _, _, _, h => ⟨h, trivial⟩
  | [], _ :: _, _, _, h, _ => h.elim
  | _ :: _, [], _, _, h, _ => h.elim
  | _ :: _, _ :: _, _, _, h, h' => ⟨h.1, KV.snoc h.2 h'⟩
theorem KV.more {news news' : List (Addr × Obj)} {ky : Nat → List Nat} (hs : ∀ p ∈ news, p ∈ news') : ∀ {ns : List Nat} {vs : List Value}, KV news ky ns vs → KV news' ky ns vs
  | [], [], _ => trivial
  | [], _ :: _, h => h.elim
  | _ :: _, [], h => h.elim
  | _ :: _, _ :: _, h => ⟨let ⟨t, us, e, hm, hu⟩ := h.1; ⟨t, us, e, hs _ hm, hu⟩, KV.more hs h.2⟩
theorem kv_tups {h₀ : Heap} {L : Addr} {h : Heap} {news : List (Addr × Obj)} {ky : Nat → List Nat} (N : News h₀ L h news) (hne : ∀ n, ky n ≠ []) : ∀ {ns : List Nat} {vs : List Value}, KV news ky ns vs → ∃ fs, KatTups h vs fs ∧ fs.length = ns.length ∧ ∀ f ∈ fs, ∃ n t, f = .int n t
  | [], [], _ => ⟨[], trivial, rfl, fun _ hf => nomatch hf⟩
  | [], _ :: _, h => h.elim
  | _ :: _, [], h => h.elim
  | n :: ns, v :: vs, h => by
    obtain ⟨⟨t, us, rfl, hm, hu⟩, h2⟩ := h
    obtain ⟨fs, h3, h4, h5⟩ := kv_tups N hne h2
    have hk := hne n
    cases hkk : ky n with
    | nil => exact absurd hkk hk
    | cons a r =>
      rw [hkk] at hu
      obtain ⟨ta, us', rfl, _⟩ := NV.head hu
      refine ⟨.int a ta :: fs, KatTups.cons (N _ hm).1 rfl rfl rfl h3, by simp [h4], fun f hf => ?_⟩
      rcases List.mem_cons.mp hf with rfl | hf
      · exact ⟨_, _, rfl⟩
      · exact h5 f hf
end
section
variable {prog : Program} {w : World} {A : Around} {E : Value → Shared → Prop} {s : Shared} {h₀ : Heap} {L a kS : Addr} {m : Str → Option Value} {news : List (Addr × Obj)} {vs ks : List Value} {ns : List Nat} {ky : Nat → List Nat}

theorem srt_run {G : Array Nat → Shared → Prop} {h1 : Heap} {tk1 : Nat} (N : News h₀ L h1 news) (hv : KV news ky ns ks) (hinj : ∀ x ∈ ns, ∀ y ∈ ns, x ≠ y → ky x ≠ ky y) (hnd : ns.Nodup) (hn : 1 ≤ ns.length)
    (hG : ∀ p : Array Nat, p.toList.Perm (List.range ns.length) → p.toList.Pairwise (fun i j => lexLt (ky (ns.getD i 0)) (ky (ns.getD j 0)) = true) → G p { s with heap := h1, toks := tk1 }) :
    (kas_sort ns.length).kasWp (kas_ask prog w A (tuples' true) ks) G { s with heap := h1, toks := tk1 } := by
  let lt : Nat → Nat → Bool := fun i j => lexLt (ky (ns.getD i 0)) (ky (ns.getD j 0))
  have gd : ∀ i, i < ns.length → ns[i]? = some (ns.getD i 0) := fun i hi => by simp [hi]
  have mem : ∀ i, i < ns.length → ns.getD i 0 ∈ ns := fun i hi => List.mem_of_getElem? (gd i hi)
  have T : Tot lt (fun i => i < ns.length) := by
    refine ⟨fun i j hi hj hij h => ?_, fun i j k _ _ _ h1 h2 => lex_trans h1 h2⟩
    refine lex_total (hinj _ (mem i hi) _ (mem j hj) fun e => hij ?_) h
    have e1 := gd i hi
    have e2 := gd j hj
    rw [e, ← e2] at e1
    exact (List.getElem?_inj hi hnd).mp e1
  refine KOk.go (lt := lt) (P := fun i => i < ns.length) (Inv := fun s' => s' = { s with heap := h1, toks := tk1 }) ?_ ?_ _ _ rfl (sort_ok T hn)
  · rintro i j C s' hi hj rfl hC
    obtain ⟨t1, u1, e1, m1, v1⟩ := hv.get (gd i hi)
    obtain ⟨t2, u2, e2, m2, v2⟩ := hv.get (gd j hj)
    unfold kas_ask
    have g1 : ks.getD i Value.none = .ref t1 := by rw [List.getD_eq_getElem?_getD, e1]; rfl
    have g2 : ks.getD j Value.none = .ref t2 := by rw [List.getD_eq_getElem?_getD, e2]; rfl
    rw [g1, g2]
    refine kat_lt (N _ m1).1 rfl (N _ m2).1 rfl ?_
    have l1 := v1.len
    have l2 := v2.len
    refine katLex_nat 0 _ (by simpa using v1) (by simpa using v2) (fun k hk => ?_) (fun k hk => ?_) (hC _ rfl)
    · simp only [List.size_toArray, decide_eq_false_iff_not]; omega
    · simp only [List.size_toArray, decide_eq_true_eq]; omega
  · rintro p s' rfl ⟨g1, g2⟩
    exact hG p (good_list g1) (asc_list g1 g2)

theorem srt_end {e e1 : Nat} {P : PySem.Fin → Shared → Prop} (F : Fr h₀ L s.heap m) (N : News h₀ L s.heap ((kS, seqObj "list" (List.toArray ks) e) :: (a, seqObj "list" #[] e1) :: news)) (hka : @Ne Nat kS a) (hnk : ∀ p ∈ news, p.1 ≠ kS) (hna : ∀ p ∈ news, p.1 ≠ a)
    (hv : KV news ky ns ks) (hi : NV vs ns) (hne : ∀ n, ky n ≠ []) (hinj : ∀ x ∈ ns, ∀ y ∈ ns, x ≠ y → ky x ≠ ky y) (hnd : ns.Nodup) (h64 : ns.length < 64)
    (h : ∀ h' tk out ns' c, Fr h₀ L h' m → News h₀ L h' ((a, listOf (List.toArray out) c) :: news) → NV out ns' → ns'.Perm ns → ns'.Pairwise (fun x y => lexLt (ky x) (ky y) = true) → P (.done (.ret .none)) { s with heap := h', toks := tk }) :
    wpAny (model prog w) A (ksk_end a false vs.toArray e1 (.ref kS) (List.toArray ks)) P E s := by
  have hkl := hv.length
  have hvl := hi.len
  have hl : ks.length = vs.length := by omega
  have Nn : News h₀ L s.heap news := fun p hp => N p (.tail _ (.tail _ hp))
  have fin : ∀ (out : List Value) (ns' : List Nat) (tk : Nat), NV out ns' → ns'.Perm ns → ns'.Pairwise (fun x y => lexLt (ky x) (ky y) = true) → KatFin h₀ L m kS a ks e e1 out (fun s' => P (.done (.ret .none)) s') { s with toks := tk } := by
    intro out ns' tk ho hp hs
    refine KatFin.intro F N (UpdF.head ?_) fun h' c F' N' => KasFin.intro F' N' (UpdF.tail ?_ (UpdF.head ?_)) fun h2 c2 F2 N2 => h h2 tk out ns' c2 F2 (fun p hp => N2 p (.tail _ hp)) ho hp hs
    · intro p hp
      rcases List.mem_cons.mp hp with rfl | hp
      · exact fun q => hka q.symm
      · exact hnk p hp
    · exact hka
    · exact hna
  by_cases h2 : 2 ≤ vs.length
  · refine kat_end (h₀ := h₀) (L := L) (m := m) (e := e) hl h2 (by omega) ?_
    obtain ⟨fs, t1, t2, t3⟩ := kv_tups N (news := (kS, seqObj "list" (List.toArray ks) e) :: (a, seqObj "list" #[] e1) :: news) hne (hv.more fun p hp => .tail _ (.tail _ hp))
    refine kat_kind (T := .type "int") t1 (by omega) (fun v hv => by obtain ⟨n, t, rfl⟩ := t3 v hv; exact Looks.of_pure rfl) (by rfl) ?_
    have e2 : ((Value.type "int" : Value) != Value.type "tuple") = true := by decide
    rw [e2]
    show (kas_sort vs.length).kasWp (kas_ask prog w A (tuples' true) ks) _ s
    rw [hvl]
    refine srt_run (s := s) (h1 := s.heap) (tk1 := s.toks) Nn hv hinj hnd (by omega) fun p hp hs => ?_
    show KatFin h₀ L m kS a ks e e1 (p.toList.map fun i => vs.getD i Value.none) _ _
    refine fin _ (p.toList.map fun i => ns.getD i 0) s.toks ?_ ?_ ?_
    · have sub : ∀ i ∈ p.toList, i < ns.length := fun i hi => List.mem_range.mp (hp.mem_iff.mp hi)
      generalize p.toList = l at sub
      induction l with
      | nil => exact .nil
      | cons i l ih =>
        have hin := sub i (.head _)
        obtain ⟨t, ht⟩ := hi.get' (i := i) (n := ns.getD i 0) (by simp [hin])
        have : vs.getD i Value.none = .int (ns.getD i 0 : Nat) t := by rw [List.getD_eq_getElem?_getD, ht]; rfl
        show NV (vs.getD i Value.none :: _) (ns.getD i 0 :: _)
        rw [this]
        exact .cons _ _ (ih fun j hj => sub j (.tail _ hj))
    · refine (hp.map _).trans ?_
      have : (List.range ns.length).map (fun i => ns.getD i 0) = ns := by
        apply List.ext_getElem
        · simp
        · intro i h1 h2
          simp at h1
          simp [h1]
      rw [this]
    · rw [List.pairwise_map]; exact hs
  · unfold ksk_end
    try dsimp only
    simp only [Bool.false_eq_true, if_false]
    have hn2 : vs.toArray.size < 2 := by rw [List.size_toArray]; omega
    rw [if_pos hn2, if_pos hn2]
    refine wpAny_bind (wpAny_pure (wpAny_bind (wpAny_pure ?_)))
    refine kat_tail (h₀ := h₀) (L := L) (m := m) (e := e) (ks := ks) (b := false) (out := vs) ?_ (by omega) (by omega) rfl ?_
    · apply Array.toList_inj.mp
      show (((List.toArray ks).zip vs.toArray).map (·.2)).toList = vs
      rw [Array.toList_map, ksk_zip]
      exact List.map_snd_zip (by simp; omega)
    · refine fin vs ns s.toks hi (List.Perm.refl _) ?_
      have : ns.length < 2 := by omega
      match ns, this with
      | [], _ => exact List.Pairwise.nil
      | [x], _ => exact List.pairwise_singleton _ _
      | _ :: _ :: _, h => (simp at h; omega)

theorem srt_keys {f : Value} {Fin : List Value → Nat → Shared → Prop} {e₀ : Nat} {xs : List Value}
    (hf : ∀ (i n : Nat) (v : Value) (t : Tok) (s₁ : Shared) (nw : List (Addr × Obj)) (Q : Value → Shared → Prop), ns[i]? = some n → xs[i]? = some v → (∃ h tk, s₁ = { s with heap := h, toks := tk }) → (∀ p ∈ news, p ∈ nw) → Fr h₀ L s₁.heap m → News h₀ L s₁.heap nw →
      (∀ h' tk', Fr h₀ L h' m → News h₀ L h' nw → Q v { s with heap := h', toks := tk' }) → wpAny (model prog w) A (call f [.int (n : Nat) t]) Q (fun _ _ => False) s₁)
    (hxs : xs.length = ns.length) (hka : @Ne Nat kS a) (hnk : ∀ p ∈ news, p.1 ≠ kS) :
    ∀ (k : Nat) (vs' : List Value) (e : Nat) (h : Heap) (tk : Nat), NV vs' (ns.drop k) → k ≤ ns.length → Fr h₀ L h m → News h₀ L h ((kS, seqObj "list" (List.toArray (xs.take k)) e) :: (a, seqObj "list" #[] e₀) :: news) →
      (∀ e' h' tk', Fr h₀ L h' m → News h₀ L h' ((kS, seqObj "list" (List.toArray xs) e') :: (a, seqObj "list" #[] e₀) :: news) → Fin xs e' { s with heap := h', toks := tk' }) →
      KatKeys prog w A h₀ L m kS f Fin vs' (xs.take k) e { s with heap := h, toks := tk } := by
  have key : ∀ (j k : Nat) (vs' : List Value) (e : Nat) (h : Heap) (tk : Nat), k + j = ns.length → NV vs' (ns.drop k) → Fr h₀ L h m → News h₀ L h ((kS, seqObj "list" (List.toArray (xs.take k)) e) :: (a, seqObj "list" #[] e₀) :: news) →
      (∀ e' h' tk', Fr h₀ L h' m → News h₀ L h' ((kS, seqObj "list" (List.toArray xs) e') :: (a, seqObj "list" #[] e₀) :: news) → Fin xs e' { s with heap := h', toks := tk' }) →
      KatKeys prog w A h₀ L m kS f Fin vs' (xs.take k) e { s with heap := h, toks := tk } := by
    intro j
    induction j with
    | zero =>
      intro k vs' e h tk hk hv F N fin
      have e1 : k = ns.length := by omega
      subst e1
      rw [List.drop_length] at hv
      cases hv
      have e2 : xs.take ns.length = xs := by rw [← hxs, List.take_length]
      rw [e2] at N ⊢
      exact KatKeys.nil (fin e h tk F N)
    | succ j ih =>
      intro k vs' e h tk hk hv F N fin
      have hkl : k < ns.length := by omega
      rw [List.drop_eq_getElem_cons hkl] at hv
      cases hv with
      | cons _ t r =>
      have hx : xs[k]? = some (xs[k]'(by omega)) := by simp [hxs, hkl]
      refine KatKeys.cons (hf k ns[k] _ t _ _ _ (by simp [hkl]) hx ⟨h, tk, rfl⟩ (fun p hp => .tail _ (.tail _ hp)) F N fun h' tk' F' N' => ?_)
      have et : xs.take k ++ [xs[k]'(by omega)] = xs.take (k + 1) := by rw [List.take_add_one, hx]; rfl
      refine KatBack.intro F' N' (UpdF.head ?_) fun h2 c2 F2 N2 => ?_
      · intro p hp
        rcases List.mem_cons.mp hp with rfl | hp
        · exact fun q => hka q.symm
        · exact hnk p hp
      · rw [et] at N2 ⊢
        exact ih (k + 1) _ c2 h2 tk' (by omega) r F2 N2 fin
  intro k vs' e h tk hv hk
  exact key (ns.length - k) k vs' e h tk (by omega) hv

theorem srt_rest {f : Value} {e1 : Nat} {P : PySem.Fin → Shared → Prop} (hk : s.heap.get? kS = some (seqObj "list" #[] 0)) (h64 : vs.length < 64)
    (h : KatKeys prog w A h₀ L m kS f (fun ks e s' => wpAny (model prog w) A (ksk_end a false vs.toArray e1 (.ref kS) (List.toArray ks)) P E s') vs [] 0 s) :
    wpAny (model prog w) A (ksk_rest a f false vs.toArray e1 (.ref kS)) P E s := by
  unfold ksk_rest
  refine wpAny_bind (wpAny_rule ?_)
  first
    | rw [List.forIn_toArray]
    | (rw [← Array.forIn_toList]; simp only [List.toList_toArray])
    | rw [← Array.forIn_toList]
  refine wpAny_bind (wpAny_mono (kat_fold h64 (fun x ks e s' C hz hx => ?_) vs [] 0 s (by simp) hk h) (fun _ s' hd => ?_) fun _ _ x => x)
  · refine wpAny_bind (wpAny_attempt (wpAny_mono hx (fun k s'' hk => ?_) fun _ _ hF => hF.elim))
    obtain ⟨news', g, F', N', U, c⟩ := hk
    obtain ⟨pre, post, e0, hg, x1, x2⟩ := U.split
    rw [e0] at N'
    have nk := N' (kS, seqObj "list" (List.toArray ks) e) (List.mem_append_right _ (.head _))
    have s1 := Heap.SameBut.update s''.heap kS (Obj.mapSeq (·.push k))
    have ea : (List.toArray ks).push k = List.toArray (ks ++ [k]) := by simp
    obtain ⟨c2, hc2⟩ : ∃ c2, (s''.heap.update kS (Obj.mapSeq (·.push k))).get? kS = some (seqObj "list" (List.toArray (ks ++ [k])) c2) := ⟨_, by rw [← ea]; exact get?_update_seq nk.1 (·.push k)⟩
    try dsimp only
    refine wpAny_bind (listUpdate_at nk.1 rfl ?_ (by rw [List.size_toArray, sizeLine_eq]; omega) (Nat.le_trans (Nat.le_of_eq (Array.size_push ..)) (by rw [List.size_toArray, sizeLine_eq]; omega)))
    exact wpAny_pure ⟨rfl, k, c2, hc2, c _ c2 (kas_fr F' s1 nk.2.1 nk.2.2) (by rw [hg]; exact news_set N' x1 x2 s1 hc2)⟩
  · obtain ⟨ks, e, hk', hl, fin⟩ := hd
    try dsimp only
    refine wpAny_bind (listItems_at hk' rfl ?_)
    exact fin

theorem srt_tree {f : Value} {n : Nat} {P : PySem.Fin → Shared → Prop} {xs : List Value} (F : Fr h₀ L s.heap m) (N : News h₀ L s.heap news) (ho : s.heap.get? a = some (seqObj "list" vs.toArray n)) (haL : a ≠ L) (ha0 : h₀.get? a = none) (hna : ∀ p ∈ news, p.1 ≠ a)
    (hv : KV news ky ns xs) (hi : NV vs ns) (hne : ∀ n, ky n ≠ []) (hinj : ∀ x ∈ ns, ∀ y ∈ ns, x ≠ y → ky x ≠ ky y) (hnd : ns.Nodup) (h64 : ns.length < 64)
    (hf : ∀ (i n : Nat) (v : Value) (t : Tok) (s₁ : Shared) (nw : List (Addr × Obj)) (Q : Value → Shared → Prop), ns[i]? = some n → xs[i]? = some v → (∃ h tk, s₁ = { s with heap := h, toks := tk }) → (∀ p ∈ news, p ∈ nw) → Fr h₀ L s₁.heap m → News h₀ L s₁.heap nw →
      (∀ h' tk', Fr h₀ L h' m → News h₀ L h' nw → Q v { s with heap := h', toks := tk' }) → wpAny (model prog w) A (call f [.int (n : Nat) t]) Q (fun _ _ => False) s₁)
    (h : ∀ h' tk out ns' c, Fr h₀ L h' m → News h₀ L h' ((a, listOf (List.toArray out) c) :: news) → NV out ns' → ns'.Perm ns → ns'.Pairwise (fun x y => lexLt (ky x) (ky y) = true) → P (.done (.ret .none)) { s with heap := h', toks := tk }) :
    wpAny (model prog w) A (ksk_tree a f false) P E s := by
  have ha : a < s.heap.objs.size := Heap.lt_size ho
  have hvl := hi.len
  have s1 := Heap.SameBut.update s.heap a (Obj.mapSeq fun _ => (#[] : Array Value))
  obtain ⟨e1, ho1⟩ : ∃ e1, (s.heap.update a (Obj.mapSeq fun _ => (#[] : Array Value))).get? a = some (seqObj "list" #[] e1) := ⟨_, get?_update_seq ho fun _ => #[]⟩
  have F1 := kas_fr F s1 haL ha0
  have N1 := kas_news N s1 hna
  have hkS : ((s.heap.update a (Obj.mapSeq fun _ => (#[] : Array Value))).push (seqObj "tuple" vs.toArray 0)).objs.size = s.heap.objs.size + 1 := by rw [size_push', Heap.size_update]
  have hLk : L < ((s.heap.update a (Obj.mapSeq fun _ => (#[] : Array Value))).push (seqObj "tuple" vs.toArray 0)).objs.size := (F1.push _).ns.lt
  unfold ksk_tree
  refine wpAny_bind (listItems_at ho rfl ?_)
  refine wpAny_bind (listUpdate_at ho rfl ?_ (by rw [List.size_toArray, sizeLine_eq]; omega) (Nat.zero_le _))
  refine wpAny_bind (seqEpoch_at ho1 rfl ?_)
  refine wpAny_bind (wpAny_newTuple ?_ (by show vs.length ≤ _; rw [sizeLine_eq]; omega))
  refine wpAny_bind (wpAny_newList ?_ (Nat.zero_le _))
  refine wpAny_holding ?_
  have hka : @Ne Nat ((s.heap.update a (Obj.mapSeq fun _ => (#[] : Array Value))).push (seqObj "tuple" vs.toArray 0)).objs.size a := by rw [hkS]; exact Nat.ne_of_gt (Nat.lt_succ_of_lt ha)
  have hnk : ∀ p ∈ news, p.1 ≠ ((s.heap.update a (Obj.mapSeq fun _ => (#[] : Array Value))).push (seqObj "tuple" vs.toArray 0)).objs.size := fun p hp => by
    rw [hkS]; exact Nat.ne_of_lt (Nat.lt_succ_of_lt (Heap.lt_size (N p hp).1))
  have N3 : News h₀ L (((s.heap.update a (Obj.mapSeq fun _ => (#[] : Array Value))).push (seqObj "tuple" vs.toArray 0)).push (seqObj "list" #[] 0)) ((((s.heap.update a (Obj.mapSeq fun _ => (#[] : Array Value))).push (seqObj "tuple" vs.toArray 0)).objs.size, seqObj "list" #[] 0) :: (a, seqObj "list" #[] e1) :: news) := fun p hp => by
    rcases List.mem_cons.mp hp with rfl | hp
    · exact ⟨Heap.get?_push_size _ rfl, Nat.ne_of_gt hLk, Heap.get?_none_of_le (Nat.le_trans F.above (Nat.le_of_lt hLk))⟩
    · rcases List.mem_cons.mp hp with rfl | hp
      · exact ⟨Heap.get?_push_of_some _ (Heap.get?_push_of_some _ ho1), haL, ha0⟩
      · exact ⟨Heap.get?_push_of_some _ (Heap.get?_push_of_some _ (N1 p hp).1), (N1 p hp).2⟩
  refine srt_rest (h₀ := h₀) (L := L) (m := m) (s := { s with heap := ((s.heap.update a (Obj.mapSeq fun _ => (#[] : Array Value))).push (seqObj "tuple" vs.toArray 0)).push (seqObj "list" #[] 0) }) (kS := ((s.heap.update a (Obj.mapSeq fun _ => (#[] : Array Value))).push (seqObj "tuple" vs.toArray 0)).objs.size)
    (Heap.get?_push_size _ rfl) (by omega) ?_
  refine srt_keys (s := s) (a := a) (e₀ := e1) (xs := xs) (ns := ns) (news := news) hf hv.length hka hnk 0 vs 0 _ s.toks (by rw [List.drop_zero]; exact hi) (Nat.zero_le _) ((F1.push _).push _) N3 fun e' h' tk' F' N' => ?_
  exact srt_end (s := { s with heap := h', toks := tk' }) F' N' hka hnk hna hv hi hne hinj hnd h64 h

theorem nv_of_items : ∀ {l : List Value} {ns : List Nat}, l.length = ns.length → (∀ (j : Nat) (v : Value) (n : Nat), l[j]? = some v → ns[j]? = some n → ∃ t, v = Value.int (n : Nat) t) → NV l ns
  | [], [], _, _ => .nil
  | [], _ :: _, h, _ => by simp at h
  | _ :: _, [], h, _ => by simp at h
  | v :: l, n :: ns, h, hp => by
    obtain ⟨t, rfl⟩ := hp 0 v n rfl rfl
    exact .cons _ t (nv_of_items (by simpa using h) fun j v' n' h1 h2 => hp (j + 1) v' n' (by simpa using h1) (by simpa using h2))

theorem sortD_r {d q : Addr} {o : Obj} {kvs : List (Int × Value)} {Q : Value → Shared → Prop} (hh : A.handled = none) (F : Fr h₀ L s.heap m) (N : News h₀ L s.heap news) (hp : (d, o) ∈ news) (hd : o.IsDictOf (PySem.intKind prog w) kvs) (lo : (d == sysModules) = false)
    (hks : kvs.map (·.1) = ns.map Int.ofNat) (hv : KV news ky ns (kvs.map (·.2))) (hne : ∀ n, ky n ≠ []) (hinj : ∀ x ∈ ns, ∀ y ∈ ns, x ≠ y → ky x ≠ ky y) (hnd : ns.Nodup) (h64 : ns.length < 64)
    (hf : ∀ (i n : Nat) (v : Value) (t : Tok) (s₁ : Shared) (nw : List (Addr × Obj)) (Q : Value → Shared → Prop), ns[i]? = some n → (kvs.map (·.2))[i]? = some v → (∃ h tk, s₁ = { s with heap := h, toks := tk }) → (∀ p ∈ news, p ∈ nw) → Fr h₀ L s₁.heap m → News h₀ L s₁.heap nw →
      (∀ h' tk', Fr h₀ L h' m → News h₀ L h' nw → Q v { s with heap := h', toks := tk' }) → wpAny (model prog w) A.in1.in1 (call (.ref q) [.int (n : Nat) t]) Q (fun _ _ => False) s₁)
    (h : ∀ D h' tk out ns' c, Fr h₀ L h' m → News h₀ L h' ((D, listOf (List.toArray out) c) :: news) → (∀ p ∈ news, p.1 < D) → NV out ns' → ns'.Perm ns → ns'.Pairwise (fun x y => lexLt (ky x) (ky y) = true) → Q (.ref D) { s with heap := h', toks := tk }) :
    wpAny (model prog w) A (call (.builtin "sorted") [.ref d] [(Str.ofString "key", .ref q)]) Q E s := by
  have hkl : kvs.length = ns.length := by have := congrArg List.length hks; simpa using this
  refine call_function_entry_kw kind_sorted plain_sorted entry_sorted (ksk_s1 _ _) ?_
  unfold Builtin.«sorted»
  refine wpAny_bind (m := checkCount "sorted" 1 1 _) (wpAny_pure ?_)
  obtain ⟨ep, hat⟩ := (kda_dict N hp hd).dictAt
  refine wpAny_bind (kdu_collect (A := A.in1) (kdl_dict (knd := PySem.intKind prog w) (kvs := kvs) (ep := ep) lo) hh hat (by rw [sizeLine_eq]; omega) fun h1 tk1 acc hk1 hacc => ?_)
  have hi : NV acc.toList ns := by
    refine nv_of_items (by rw [Array.length_toList, hacc.1, hkl]) fun j v n h1 h2 => ?_
    obtain ⟨k, x, hx, hk⟩ := hacc.2 j v (by rw [← Array.getElem?_toList]; exact h1)
    have e1 : (kvs.map (·.1))[j]? = some k := by rw [List.getElem?_map, hx]; rfl
    have e2 : (ns.map Int.ofNat)[j]? = some (Int.ofNat n) := by rw [List.getElem?_map, h2]; rfl
    rw [hks, e2] at e1
    have e3 : k = Int.ofNat n := by simpa using e1.symm
    subst e3
    obtain ⟨t, rfl⟩ := Value.isInt_shape hk
    exact ⟨t, rfl⟩
  have hal := hi.len
  refine wpAny_bind (wpAny_newList ?_ (by rw [sizeLine_eq]; omega))
  have F1 := F.keeps hk1
  have N1 := N.grown hk1
  have hoL : (h1.push (seqObj "list" acc.toList.toArray 0)).get? h1.objs.size = some (seqObj "list" acc.toList.toArray 0) := Heap.get?_push_size _ rfl
  have keep : ∀ b o, h1.get? b = some o → (h1.push (seqObj "list" acc.toList.toArray 0)).get? b = some o := fun b o e => Heap.get?_push_of_some _ e
  have hL : L < h1.objs.size := F1.ns.lt
  show wpAny _ _ _ _ _ { s with heap := h1.push (seqObj "list" acc.toList.toArray 0), toks := tk1 }
  refine wpAny_bind (wpAny_holding (wpAny_call_entry_kw slot_list_sort ⟨_, hoL, rfl⟩ entry_list_sort ?body (ksk_l1 _ _)))
  case body =>
    show wpAny (model prog w) A.in1.in1 (Builtin.«list.sort» ⟨[.ref h1.objs.size], [(Str.ofString "key", .ref q)]⟩) _ _ _
    rw [ksk_t1]
    refine srt_tree (s := { s with heap := h1.push (seqObj "list" acc.toList.toArray 0), toks := tk1 }) (vs := acc.toList) (F1.kept keep) (N1.grown keep) hoL (Nat.ne_of_gt hL) (Heap.get?_none_of_le (Nat.le_trans F.above (Nat.le_of_lt hL)))
      (fun p hp => Nat.ne_of_lt (Heap.lt_size (N1 p hp).1)) hv hi hne hinj hnd h64 (fun i n v t s₁ nw Q h1 h2 h3 => hf i n v t s₁ nw Q h1 h2 (by obtain ⟨h, tk, e⟩ := h3; exact ⟨h, tk, e⟩)) fun h' tk' out ns' c F' N' ho hp' hs' => ?_
    exact ⟨_, rfl, wpAny_pure ⟨_, rfl, h _ h' tk' out ns' c F' N' (fun p hp => Heap.lt_size (N1 p hp).1) ho hp' hs'⟩⟩

theorem stored_next {kvs : List (Int × Value)} {ns : List Nat} {i n : Nat} {v : Value} (h1 : kvs.map (·.1) = (ns.take i).map Int.ofNat) (hnd : ns.Nodup) (hn : ns[i]? = some n) : stored kvs (n : Int) v = kvs ++ [((n : Int), v)] := by
  refine stored_absent (valueAt_none_of_not_mem fun hm => ?_) v
  rw [h1] at hm
  obtain ⟨x, hx, e⟩ := List.mem_map.mp hm
  have e' : x = n := Int.ofNat.inj e
  subst e'
  obtain ⟨j, hj, e2⟩ := List.mem_iff_getElem.mp hx
  have hj2 : j < i := by rw [List.length_take] at hj; omega
  rw [List.getElem_take] at e2
  have hil : i < ns.length := (List.getElem?_eq_some_iff.mp hn).1
  have e3 : ns[i] = x := (List.getElem?_eq_some_iff.mp hn).2
  have hjl : j < ns.length := by omega
  have := (List.getElem?_inj hjl hnd).mp (show ns[j]? = ns[i]? by rw [hn, List.getElem?_eq_getElem hjl, e2])
  omega
end
theorem place_inj {T : List NRow} (W : WF T) : ∀ {a b : Nat}, place T a = place T b → a = b := by
  intro a
  induction a using Nat.strongRecOn with
  | _ a ih =>
    intro b h
    cases hp : par T a with
    | none =>
      rw [place_none hp] at h
      cases hq : par T b with
      | none => rw [place_none hq] at h; simpa using h
      | some q =>
        rw [place_some W hq] at h
        have h1 := congrArg List.length h
        have h2 := slot_len T q b
        rw [List.length_append] at h1
        simp only [List.length_cons, List.length_nil] at h1
        have h3 : (place T q).length = 0 := by omega
        exact absurd (List.eq_nil_of_length_eq_zero h3) (place_ne W q)
    | some p =>
      rw [place_some W hp] at h
      cases hq : par T b with
      | none =>
        rw [place_none hq] at h
        have h1 := congrArg List.length h
        have h2 := slot_len T p a
        rw [List.length_append] at h1
        simp only [List.length_cons, List.length_nil] at h1
        have h3 : (place T p).length = 0 := by omega
        exact absurd (List.eq_nil_of_length_eq_zero h3) (place_ne W p)
      | some q =>
        rw [place_some W hq] at h
        have h4 := List.append_inj' h (by rw [slot_len, slot_len])
        have e := ih p (par_lt W hp) h4.1
        subst e
        have hs := h4.2
        have ha := par_hung W hp
        have hb := par_hung W hq
        rcases ha with ha | ha | ha <;> rcases hb with hb | hb | hb
        · rw [slot_ns W ha, slot_ns W hb] at hs; simp at hs; exact idx_inj ha hb hs
        · rw [slot_ns W ha, slot_att W hb] at hs; simp at hs
        · rw [slot_ns W ha, slot_kid W hb] at hs; simp at hs
        · rw [slot_att W ha, slot_ns W hb] at hs; simp at hs
        · rw [slot_att W ha, slot_att W hb] at hs; simp at hs; exact idx_inj ha hb hs
        · rw [slot_att W ha, slot_kid W hb] at hs; simp at hs
        · rw [slot_kid W ha, slot_ns W hb] at hs; simp at hs
        · rw [slot_kid W ha, slot_att W hb] at hs; simp at hs
        · rw [slot_kid W ha, slot_kid W hb] at hs; simp at hs; exact idx_inj ha hb hs
end Mine
namespace Mine
section
variable {prog : Program} {w : World} {A : Around} {E : Value → Shared → Prop} {s : Shared} {env : Env} {h₀ : Heap} {x : Str} {body : List Stmt} {Q : Flow → Shared → Prop} {m₀ : Str → Option Value} {l : Addr} {vs : List Value}
theorem iter_tup {L : Addr} (hL : env.locals = L) {σ : Type} (Led : σ → List (Addr × Obj)) (ps : σ → List (Str × Value)) (st : List Str) (J : Nat → σ → Prop) (c₀ : σ) (fix : List (Addr × Obj)) {news : List (Addr × Obj)}
    (hh : A.handled = none) (hl : s.heap.IsTuple l vs.toArray) (hlL : l ≠ L) (F : Fr h₀ L s.heap m₀) (N : News h₀ L s.heap news) (hin : ∀ p ∈ Led c₀ ++ fix, p ∈ news)
    (hoff : ∀ q ∈ Led c₀, ∀ p ∈ fix, @Ne Nat p.1 q.1) (hll : ∀ k c, J k c → ∀ p ∈ Led c, @Ne Nat p.1 l)
    (hps : ∀ p ∈ ps c₀, m₀ p.1 = some p.2) (hj : J 0 c₀)
    (turn : ∀ i v c u h tk own, vs[i]? = some v → i < vs.length → J i c → Fr h₀ L h (fun y => if y = x then some v else setv (ps c) (x :: st) u m₀ y) → News h₀ L h (Led c ++ (fix ++ own)) → (∀ q ∈ Led c, ∀ p ∈ fix ++ own, @Ne Nat p.1 q.1) →
      wpAny (model prog w) A (execs body env) (ForPost h₀ L Led ps st m₀ x (J (i + 1)) (fix ++ own) { s with heap := h, toks := tk } Q) E { s with heap := h, toks := tk })
    (done : ∀ c u h tk, J vs.length c → Fr h₀ L h (setv (ps c) (x :: st) u m₀) → News h₀ L h (Led c ++ fix) → (∀ q ∈ Led c, ∀ p ∈ fix, @Ne Nat p.1 q.1) → Q .next { s with heap := h, toks := tk }) :
    wpAny (model prog w) A (pyIter (.ref l)) (fun it s₂ => LoopAtV prog w A h₀ env x body Q E it s₂) E s := by
  subst hL
  obtain ⟨ol, hol, _⟩ := id hl
  have hlt : l < s.heap.objs.size := Heap.lt_size hol
  have hne : l ≠ s.heap.objs.size := Nat.ne_of_lt hlt
  refine wpAny_pyIter_tuple hl ?_
  have W := Walks.tuple (prog := prog) (w := w) hh s.heap.objs.size l hne vs.toArray
  have hsz : vs.toArray.size = vs.length := by simp
  rw [hsz] at W
  have up : ∀ b o, s.heap.get? b = some o → (s.heap.push { cls := .type "tuple_iterator", data := .fields #[.ref l, .int 0 0] }).get? b = some o := fun b o e => Heap.get?_push_of_some _ e
  refine iter_walks W Led ps st J c₀ fix ⟨_, Heap.get?_push_size _ rfl⟩ ?_ (next_is_new F) ⟨⟨_, Heap.get?_push_size _ rfl, rfl, rfl⟩, hl.at fun o e => up _ o e⟩ (F.push _) (fun p hp => ⟨up _ _ (N p hp).1, (N p hp).2⟩) hin
    (fun p hp => Nat.ne_of_lt (Heap.lt_size (N p (hin p hp)).1)) hoff (fun k c hJc p hp hI hm => ?_) hps hj (fun i h hSt => ?_) (fun i v c u h tk own hP hi => turn i v c u h tk own (by simpa using hP) hi) done
  · intro hm
    rcases List.mem_cons.mp hm with e | hm
    · exact absurd F.ns.lt (e ▸ Nat.lt_irrefl _)
    · exact hlL (List.mem_singleton.mp hm).symm
  · rcases List.mem_cons.mp hm with e | hm
    · exact hI e
    · exact hll k c hJc p hp (List.mem_singleton.mp hm)
  · obtain ⟨⟨o, e, _⟩, _⟩ := hSt; exact ⟨o, e⟩
end
noncomputable def uniq (ns : List Nat) : List Nat := ns.foldl (fun acc n => if n ∈ acc then acc else acc ++ [n]) []
theorem uniq_next {ns : List Nat} {k n : Nat} (h : ns[k]? = some n) : uniq (ns.take (k + 1)) = if n ∈ uniq (ns.take k) then uniq (ns.take k) else uniq (ns.take k) ++ [n] := by
  unfold uniq
  rw [List.take_add_one, h]
  simp only [Option.toList_some, List.foldl_append, List.foldl_cons, List.foldl_nil]
theorem uniq_go (ns : List Nat) : ∀ acc : List Nat, acc.Nodup → (ns.foldl (fun acc n => if n ∈ acc then acc else acc ++ [n]) acc).Nodup ∧ ∀ x, x ∈ ns.foldl (fun acc n => if n ∈ acc then acc else acc ++ [n]) acc ↔ x ∈ acc ∨ x ∈ ns := by
  induction ns with
  | nil => intro acc h; exact ⟨h, fun x => by simp⟩
  | cons n ns ih =>
    intro acc h
    simp only [List.foldl_cons]
    by_cases hn : n ∈ acc
    · rw [if_pos hn]
      refine ⟨(ih acc h).1, fun x => ?_⟩
      rw [(ih acc h).2 x]
      simp only [List.mem_cons]
      constructor
      · rintro (h1 | h1)
        · exact .inl h1
        · exact .inr (.inr h1)
      · rintro (h1 | rfl | h1)
        · exact .inl h1
        · exact .inl hn
        · exact .inr h1
    · rw [if_neg hn]
      have h2 : (acc ++ [n]).Nodup := by
        rw [List.nodup_append]
        exact ⟨h, by simp, fun a ha b hb e => hn (by rw [← List.mem_singleton.mp hb, ← e]; exact ha)⟩
      refine ⟨(ih _ h2).1, fun x => ?_⟩
      rw [(ih _ h2).2 x]
      simp only [List.mem_cons, List.mem_append, List.not_mem_nil, or_false, or_assoc]
theorem uniq_nodup (ns : List Nat) : (uniq ns).Nodup := (uniq_go ns [] List.nodup_nil).1
theorem uniq_mem (ns : List Nat) (x : Nat) : x ∈ uniq ns ↔ x ∈ ns := by
  have := (uniq_go ns [] List.nodup_nil).2 x
  simpa [uniq] using this
theorem uniq_len (ns : List Nat) : (uniq ns).length ≤ ns.length := by
  unfold uniq
  have : ∀ (l acc : List Nat), (l.foldl (fun acc n => if n ∈ acc then acc else acc ++ [n]) acc).length ≤ acc.length + l.length := by
    intro l
    induction l with
    | nil => intro acc; simp
    | cons n l ih =>
      intro acc
      simp only [List.foldl_cons, List.length_cons]
      split
      · have := ih acc; omega
      · have := ih (acc ++ [n]); rw [List.length_append, List.length_singleton] at this; omega
  simpa using this ns []
theorem stored_keys {kvs : List (Int × Value)} {us : List Nat} {n : Nat} {v : Value} (h : kvs.map (·.1) = us.map Int.ofNat) : (stored kvs (n : Int) v).map (·.1) = (if n ∈ us then us else us ++ [n]).map Int.ofNat := by
  have hiff : (n : Int) ∈ kvs.map (·.1) ↔ n ∈ us := by
    rw [h]
    constructor
    · intro hm
      obtain ⟨x, hx, e⟩ := List.mem_map.mp hm
      have : x = n := Int.ofNat.inj e
      subst this; exact hx
    · intro hm; exact List.mem_map.mpr ⟨n, hm, rfl⟩
  unfold stored
  by_cases hn : n ∈ us
  · rw [if_pos hn]
    have ha : (kvs.any fun kv => decide (kv.1 = (n : Int))) = true := by
      obtain ⟨kv, hkv, e⟩ := List.mem_map.mp (hiff.mpr hn)
      exact List.any_eq_true.mpr ⟨kv, hkv, by simpa using e⟩
    rw [ha]
    simp only [if_true]
    rw [List.map_map, ← h]
    refine List.map_congr_left fun kv _ => ?_
    simp only [Function.comp]
    split <;> rfl
  · rw [if_neg hn]
    have ha : (kvs.any fun kv => decide (kv.1 = (n : Int))) = false := by
      rw [List.any_eq_false]
      intro kv hkv e
      exact hn (hiff.mp (List.mem_map.mpr ⟨kv, hkv, by simpa using e⟩))
    rw [ha]
    simp [h]
theorem nv_of_itemsD : ∀ {l : List Value} {ns : List Nat}, l.length = ns.length → (∀ (j : Nat) (v : Value) (n : Nat), l[j]? = some v → ns[j]? = some n → ∃ t, v = Value.int (n : Nat) t) → NV l ns
  | [], [], _, _ => .nil
  | [], _ :: _, h, _ => by simp at h
  | _ :: _, [], h, _ => by simp at h
  | v :: l, n :: ns, h, hp => by
    obtain ⟨t, rfl⟩ := hp 0 v n rfl rfl
    exact .cons _ t (nv_of_itemsD (by simpa using h) fun j v' n' h1 h2 => hp (j + 1) v' n' (by simpa using h1) (by simpa using h2))
section
variable {prog : Program} {w : World} {A : Around} {E : Value → Shared → Prop} {s : Shared} {h₀ : Heap} {L d : Addr} {m : Str → Option Value} {news : List (Addr × Obj)} {o : Obj} {kvs : List (Int × Value)} {ns : List Nat}
theorem listD_r {Q : Value → Shared → Prop} (hh : A.handled = none) (F : Fr h₀ L s.heap m) (N : News h₀ L s.heap news) (hp : (d, o) ∈ news) (hd : o.IsDictOf (PySem.intKind prog w) kvs) (lo : (d == sysModules) = false) (hks : kvs.map (·.1) = ns.map Int.ofNat) (hn : ns.length < 2 ^ 20)
    (h : ∀ (D : Addr) c h' tk (vs : List Value), Fr h₀ L h' m → News h₀ L h' ((D, listOf vs.toArray c) :: news) → (∀ q ∈ news, q.1 < D) → NV vs ns → Q (.ref D) { s with heap := h', toks := tk }) :
    wpAny (model prog w) A (call (.type "list") [.ref d]) Q E s := by
  have hkl : kvs.length = ns.length := by have := congrArg List.length hks; simpa using this
  obtain ⟨ep, hat⟩ := (kda_dict N hp hd).dictAt
  refine kdl_N (kdl_dict (knd := PySem.intKind prog w) (kvs := kvs) (ep := ep) lo) hh F N hat (by rw [sizeLine_eq]; omega) fun D c h' tk vs F' N' l1 hl hv => ?_
  refine h D c h' tk vs F' N' l1 (nv_of_itemsD (by omega) fun j v n h1 h2 => ?_)
  obtain ⟨k, x, hx, hk⟩ := hv j v h1
  have e1 : (kvs.map (·.1))[j]? = some k := by rw [List.getElem?_map, hx]; rfl
  have e2 : (ns.map Int.ofNat)[j]? = some (Int.ofNat n) := by rw [List.getElem?_map, h2]; rfl
  rw [hks, e2] at e1
  have e3 : k = Int.ofNat n := by simpa using e1.symm
  subst e3
  obtain ⟨t, rfl⟩ := Value.isInt_shape hk
  exact ⟨t, rfl⟩
end
theorem tab_list_ne {P : Addr} {line col : Nat} {qual : Str} {tl : List (Addr × Obj)} {g h : Heap} {a : Addr} {va : Array Value} {ca : Nat} (x : TabOK P line col qual tl) (H : Hid g h tl) (e : h.get? a = some (listOf va ca)) : ∀ q ∈ tl, @Ne Nat a q.1 := by
  intro q hq ea
  have ea' : a = q.1 := ea
  have h1 := (H q hq).1
  rw [← ea', e] at h1
  have h2 : q.2 = listOf va ca := (Option.some.inj h1).symm
  have h3 : ∃ vs, q.2.data = .fields vs := by
    cases x with
    | fresh => rw [List.mem_singleton.mp hq]; exact ⟨_, rfl⟩
    | made hd hv hne =>
      rcases List.mem_cons.mp hq with rfl | hq
      · exact ⟨_, rfl⟩
      · rw [List.mem_singleton.mp hq]; exact ⟨_, hd⟩
  obtain ⟨vs, hv⟩ := h3
  rw [h2] at hv
  cases hv
end Mine
namespace Mine
theorem withDesc_lt {T : List NRow} (W : WF T) {l : List Nat} (h : ∀ x ∈ l, x < T.length) {y : Nat} (hy : y ∈ withDesc T l) : y < T.length := by
  unfold withDesc at hy
  obtain ⟨a, ha, hy⟩ := List.mem_flatMap.mp hy
  rcases List.mem_cons.mp hy with rfl | hy
  · exact h _ ha
  · exact (desc_mem W a y hy).2
theorem topOf_kid {T : List NRow} (W : WF T) {p c : Nat} (h : c ∈ kids T p) : topOf T c = topOf T p := topOf_some W (W.kid p c h).2.2.1
theorem topOf_desc {T : List NRow} (W : WF T) {n : Nat} : ∀ x, x ∈ desc T n → topOf T x = topOf T n := by
  intro x
  induction x using Nat.strongRecOn with
  | _ x ih =>
    intro hx
    obtain ⟨p, e1, e2, e3⟩ := desc_par W n x hx
    rw [topOf_some W e1]
    rcases e3 with rfl | e3
    · rfl
    · exact ih p (par_lt W e1) e3
theorem topOf_anc {T : List NRow} (W : WF T) : ∀ n x, x ∈ anc T n → topOf T x = topOf T n := by
  intro n
  induction n using Nat.strongRecOn with
  | _ n ih =>
    intro x hx
    cases hp : par T n with
    | none => rw [anc_none hp] at hx; cases hx
    | some p =>
      rw [anc_some W hp] at hx
      rw [topOf_some W hp]
      rcases List.mem_cons.mp hx with rfl | hx
      · rfl
      · exact ih p (par_lt W hp) x hx
theorem topOf_wd {T : List NRow} (W : WF T) {l : List Nat} {r : Nat} (h : ∀ x ∈ l, topOf T x = r) {y : Nat} (hy : y ∈ withDesc T l) : topOf T y = r := by
  unfold withDesc at hy
  obtain ⟨a, ha, hy⟩ := List.mem_flatMap.mp hy
  rcases List.mem_cons.mp hy with rfl | hy
  · exact h _ ha
  · rw [topOf_desc W y hy]; exact h _ ha
theorem topOf_sibB {T : List NRow} (W : WF T) {n x : Nat} (h : x ∈ sibB T n) : topOf T x = topOf T n := by
  unfold sibB at h
  cases hp : par T n with
  | none => rw [hp] at h; cases h
  | some p =>
    rw [hp] at h
    simp only at h
    split at h
    · cases h
    · rw [topOf_some W hp]; exact topOf_kid W (List.mem_of_mem_drop h)
theorem topOf_sibA {T : List NRow} (W : WF T) {n x : Nat} (h : x ∈ sibA T n) : topOf T x = topOf T n := by
  unfold sibA at h
  cases hp : par T n with
  | none => rw [hp] at h; cases h
  | some p =>
    rw [hp] at h
    simp only at h
    split at h
    · cases h
    · rw [topOf_some W hp]; exact topOf_kid W (List.mem_of_mem_take (List.mem_reverse.mp h))
theorem topOf_follFrom {T : List NRow} (W : WF T) {n x : Nat} (h : x ∈ follFrom T n) : topOf T x = topOf T n := by
  unfold follFrom at h
  obtain ⟨a, ha, hx⟩ := List.mem_flatMap.mp h
  have e : topOf T a = topOf T n := by
    rcases List.mem_cons.mp ha with rfl | ha
    · rfl
    · exact topOf_anc W n a ha
  exact topOf_wd W (fun y hy => (topOf_sibB W hy).trans e) hx
theorem topOf_precFrom {T : List NRow} (W : WF T) {n x : Nat} (h : x ∈ precFrom T n) : topOf T x = topOf T n := by
  unfold precFrom at h
  obtain ⟨a, ha, hx⟩ := List.mem_flatMap.mp h
  have e : topOf T a = topOf T n := by
    rcases List.mem_cons.mp ha with rfl | ha
    · rfl
    · exact topOf_anc W n a ha
  unfold precAt at hx
  obtain ⟨b, hb, hx⟩ := List.mem_flatMap.mp hx
  refine topOf_wd W (l := [b]) (fun y hy => ?_) (List.mem_reverse.mp hx)
  rw [List.mem_singleton.mp hy]; exact (topOf_sibA W hb).trans e
theorem anc_lt' {T : List NRow} (W : WF T) {n x : Nat} (hn : n < T.length) (h : x ∈ anc T n) : x < T.length := by have := anc_lt W n x h; omega
theorem follFrom_lt {T : List NRow} (W : WF T) {n x : Nat} (h : x ∈ follFrom T n) : x < T.length := by
  unfold follFrom at h
  obtain ⟨a, ha, hx⟩ := List.mem_flatMap.mp h
  exact withDesc_lt W (fun y hy => sibB_sub W hy) hx
theorem precFrom_lt {T : List NRow} (W : WF T) {n x : Nat} (h : x ∈ precFrom T n) : x < T.length := by
  unfold precFrom at h
  obtain ⟨a, ha, hx⟩ := List.mem_flatMap.mp h
  unfold precAt at hx
  obtain ⟨b, hb, hx⟩ := List.mem_flatMap.mp hx
  refine withDesc_lt W (l := [b]) (fun y hy => ?_) (List.mem_reverse.mp hx)
  rw [List.mem_singleton.mp hy]; exact sibA_sub W hb
theorem axis_in {T : List NRow} (W : WF T) {n : Nat} (hn : n < T.length) (name : Str) {x : Nat} (h : x ∈ axisL T n name) : x < T.length ∧ topOf T x = topOf T n := by
  have hfoll : ∀ y, y ∈ foll T n → y < T.length ∧ topOf T y = topOf T n := by
    intro y hy
    unfold foll at hy
    split at hy
    · cases hp : par T n with
      | none => rw [hp] at hy; cases hy
      | some q =>
        rw [hp] at hy
        rw [topOf_some W hp]
        rcases List.mem_append.mp hy with hy | hy
        · exact ⟨(desc_mem W q y hy).2, topOf_desc W y hy⟩
        · exact ⟨follFrom_lt W hy, topOf_follFrom W hy⟩
    · exact ⟨follFrom_lt W hy, topOf_follFrom W hy⟩
  have hprec : ∀ y, y ∈ prec T n → y < T.length ∧ topOf T y = topOf T n := by
    intro y hy
    unfold prec at hy
    split at hy
    · cases hp : par T n with
      | none => rw [hp] at hy; cases hy
      | some q =>
        rw [hp] at hy
        rw [topOf_some W hp]
        exact ⟨precFrom_lt W hy, topOf_precFrom W hy⟩
    · exact ⟨precFrom_lt W hy, topOf_precFrom W hy⟩
  unfold axisL at h
  split at h
  · exact ⟨(W.kid n x h).2.1, topOf_kid W h⟩
  split at h
  · rw [List.mem_singleton.mp h]; exact ⟨hn, rfl⟩
  split at h
  · cases hp : par T n with
    | none => rw [hp] at h; cases h
    | some q =>
      rw [hp] at h
      rw [List.mem_singleton.mp h]
      have := par_lt W hp
      exact ⟨by omega, (topOf_some W hp).symm⟩
  split at h
  · exact ⟨(W.att n x h).2.1, topOf_some W (W.att n x h).2.2.1⟩
  split at h
  · exact ⟨sibB_sub W h, topOf_sibB W h⟩
  split at h
  · exact ⟨sibA_sub W h, topOf_sibA W h⟩
  split at h
  · exact ⟨(desc_mem W n x h).2, topOf_desc W x h⟩
  split at h
  · rcases List.mem_cons.mp h with rfl | h
    · exact ⟨hn, rfl⟩
    · exact ⟨(desc_mem W n x h).2, topOf_desc W x h⟩
  split at h
  · exact ⟨anc_lt' W hn h, topOf_anc W n x h⟩
  split at h
  · rcases List.mem_cons.mp h with rfl | h
    · exact ⟨hn, rfl⟩
    · exact ⟨anc_lt' W hn h, topOf_anc W n x h⟩
  split at h
  · exact hfoll x h
  · exact hprec x h
theorem axis_lt {T : List NRow} (W : WF T) {n : Nat} (hn : n < T.length) (name : Str) {x : Nat} (h : x ∈ axisL T n name) : x < T.length := (axis_in W hn name h).1
noncomputable def stepL (T : List NRow) (r : Nat) (ns : List Nat) (name : Str) : List Nat := (walked T r).filter fun x => decide (∃ n ∈ ns, x ∈ axisL T n name)
theorem stepL_sub {T : List NRow} {r : Nat} {ns : List Nat} {name : Str} {x : Nat} (h : x ∈ stepL T r ns name) : x ∈ walked T r := (List.mem_filter.mp h).1
theorem axis_walked {T : List NRow} (W : WF T) {r n : Nat} (hr : r < T.length) (hp : par T r = none) (hn : n ∈ walked T r) (name : Str) {x : Nat} (h : x ∈ axisL T n name) : x ∈ walked T r := by
  have h1 := (walked_top W hr hp n).mp hn
  have h2 := axis_in W h1.1 name h
  exact (walked_top W hr hp x).mpr ⟨h2.1, h2.2.trans h1.2⟩
end Mine
namespace Mine
theorem flatMap_le {α : Type} {f : α → List Nat} {k : Nat} : ∀ {l : List α}, (∀ a ∈ l, (f a).length ≤ k) → (l.flatMap f).length ≤ k * l.length
  | [], _ => by simp
  | a :: l, h => by
    rw [List.flatMap_cons, List.length_append, List.length_cons, Nat.mul_succ]
    have h1 := h a (.head _)
    have h2 := flatMap_le (l := l) fun b hb => h b (.tail _ hb)
    omega
end Mine
namespace Mine
noncomputable def stepsL (T : List NRow) (r : Nat) (ns : List Nat) (nms : List Str) : List Nat := nms.foldl (fun acc nm => stepL T r acc nm) ns
theorem stepsL_next (T : List NRow) (r : Nat) (ns : List Nat) {nms : List Str} {k : Nat} {nm : Str} (h : nms[k]? = some nm) : stepsL T r ns (nms.take (k + 1)) = stepL T r (stepsL T r ns (nms.take k)) nm := by
  unfold stepsL
  rw [List.take_add_one, h]
  simp only [Option.toList_some, List.foldl_append, List.foldl_cons, List.foldl_nil]
theorem stepsL_in {T : List NRow} {r : Nat} {ns : List Nat} (hw : ∀ x ∈ ns, x ∈ walked T r) (nms : List Str) : ∀ x ∈ stepsL T r ns nms, x ∈ walked T r := by
  unfold stepsL
  induction nms generalizing ns with
  | nil => exact hw
  | cons nm nms ih => exact ih fun x hx => stepL_sub hx
theorem stepL_len {T : List NRow} (W : WF T) {r : Nat} (hr : r < T.length) (ns : List Nat) (nm : Str) : (stepL T r ns nm).length < 60 := Nat.lt_of_le_of_lt (List.length_filter_le _ _) (walked_len W hr)
theorem stepsL_len {T : List NRow} (W : WF T) {r : Nat} (hr : r < T.length) {ns : List Nat} (h : ns.length < 60) (nms : List Str) : (stepsL T r ns nms).length < 60 := by
  unfold stepsL
  induction nms generalizing ns with
  | nil => exact h
  | cons nm nms ih => exact ih (stepL_len W hr ns nm)
noncomputable def Lined (P : Addr → Str → Prop) : List Value → List Str → Prop
  | [], [] => True
  | v :: vs, n :: ns => (∃ a, v = .ref a ∧ P a n) ∧ Lined P vs ns
  | _, _ => False
theorem Lined.len {P : Addr → Str → Prop} : ∀ {vs : List Value} {ns : List Str}, Lined P vs ns → vs.length = ns.length
  | [], [], _ => rfl
  | [], _ :: _, h => h.elim
  | _ :: _, [], h => h.elim
  | _ :: _, _ :: _, h => by simp [Lined.len h.2]
theorem Lined.get {P : Addr → Str → Prop} : ∀ {vs : List Value} {ns : List Str} {i : Nat} {v : Value}, Lined P vs ns → vs[i]? = some v → ∃ a n, v = .ref a ∧ ns[i]? = some n ∧ P a n
  | [], _, _, _, _, h => by simp at h
  | _ :: _, [], _, _, h, _ => h.elim
  | v :: vs, n :: ns, 0, u, h, e => by
    simp at e; subst e
    obtain ⟨⟨a, rfl, hp⟩, _⟩ := h
    exact ⟨a, n, rfl, rfl, hp⟩
  | v :: vs, n :: ns, i + 1, u, h, e => by
    have e' : vs[i]? = some u := by simpa using e
    obtain ⟨a, m, h1, h2, h3⟩ := Lined.get h.2 e'
    exact ⟨a, m, h1, by simpa using h2, h3⟩
theorem Lined.snoc {P : Addr → Str → Prop} : ∀ {vs : List Value} {ns : List Str} {a : Addr} {n : Str}, Lined P vs ns → P a n → Lined P (vs ++ [.ref a]) (ns ++ [n])
  | [], [], a, _, _, h => ⟨⟨a, rfl, h⟩, trivial⟩
  | [], _ :: _, _, _, h, _ => h.elim
  | _ :: _, [], _, _, h, _ => h.elim
  | _ :: _, _ :: _, _, _, h, h' => ⟨h.1, Lined.snoc h.2 h'⟩
theorem Lined.mono {P P' : Addr → Str → Prop} (hp : ∀ a n, P a n → P' a n) : ∀ {vs : List Value} {ns : List Str}, Lined P vs ns → Lined P' vs ns
  | [], [], _ => trivial
  | [], _ :: _, h => h.elim
  | _ :: _, [], h => h.elim
  | _ :: _, _ :: _, h => ⟨let ⟨a, e, h1⟩ := h.1; ⟨a, e, hp a _ h1⟩, Lined.mono hp h.2⟩
end Mine
namespace Mine
noncomputable def SV : List Value → List Str → Prop
  | [], [] => True
  | v :: vs, n :: ns => (∃ t, v = .str n t) ∧ SV vs ns
  | _, _ => False
theorem SV.len : ∀ {vs : List Value} {ns : List Str}, SV vs ns → vs.length = ns.length
  | [], [], _ => rfl
  | [], _ :: _, h => h.elim
  | _ :: _, [], h => h.elim
  | _ :: _, _ :: _, h => by simp [SV.len h.2]
theorem SV.get : ∀ {vs : List Value} {ns : List Str} {i : Nat} {v : Value}, SV vs ns → vs[i]? = some v → ∃ n t, ns[i]? = some n ∧ v = .str n t
  | [], _, _, _, _, h => by simp at h
  | _ :: _, [], _, _, h, _ => h.elim
  | v :: vs, n :: ns, 0, u, h, e => by
    simp at e; subst e
    obtain ⟨⟨t, rfl⟩, _⟩ := h
    exact ⟨n, t, rfl, rfl⟩
  | v :: vs, n :: ns, i + 1, u, h, e => by
    have e' : vs[i]? = some u := by simpa using e
    obtain ⟨m, t, h1, h2⟩ := SV.get h.2 e'
    exact ⟨m, t, by simpa using h1, h2⟩
inductive SList (h : Heap) (l : Addr) (nms : List Str) : Prop
  | ik (vs : _)
    (f0 : h.IsList l (List.toArray vs))
    (f1 : SV vs nms) : SList h l nms
end Mine
namespace Mine
section
variable {prog : Program} {w : World} {A : Around} {s : Shared} {K : Frag} {C fI : Addr}
  {name qual : Str} {params : Arguments} {body : List Stmt} {scope : Scope} {dV kV doc pm cdv ct oc : Value} {an od : Option Addr} {osl : Array (Option Value)} {vals : List Value} {Q E : Value → Shared → Prop} {n : Nat}
theorem cls_own (H : Here K A s.heap) (hr : Room A (n + 2)) (hm : makesIn K C = true) (hi : findIn K (.ref C) "__init__" = some (some (.ref fI))) (hf : isFn K (.ref fI) = true)
    (ho : K.lookup fI = some ⟨oc, od, .func (fnOf name qual params body scope dV kV doc pm an cdv ct), osl⟩) (hcd : codeIn K cdv qual = true)
    (hbind : ∀ (x : Addr) (s' : Shared), BindsTo s' (fnOf name qual params body scope dV kV doc pm an cdv ct) ⟨.ref x :: vals, []⟩ ((params.args.map (·.arg)).zip (.ref x :: vals))) (hloc : ∀ x : Addr, ∀ y ∈ (params.args.map (·.arg)).zip (.ref x :: vals), scope.names.lookup y.1 = some .local)
    (h : ∀ (A₀ : Around) (base : Heap) (outer : List Env) (p : Program) (loose : List Str) (mean : ExcName → Option Value) (mg mb : Str → Option Value) (d u : Nat) (gd : Option (List Code)) (L' : Addr) (h₁ : Heap) (tk₁ : Nat) (x dx : Addr),
      Below A₀ base outer s.heap → K.In s.heap → Top p loose mean mg mb s.heap → Fr s.heap L' h₁ (fun y => ((params.args.map (·.arg)).zip (.ref x :: vals)).reverse.lookup y) → News s.heap L' h₁ [(x, instObj C dx), (dx, dictOf [] 0)] → @LT.lt Nat _ dx x → @LT.lt Nat _ x L' → d + n < recursionLimit → u + 8 * n + 200 < cLine →
      wpAny (model prog w) (arnd d (envOf qual scope L' fI cdv) outer gd u) (execs body (envOf qual scope L' fI cdv))
        (fun fl s' => (match fl with | .ret v => v | _ => .none) = Value.none ∧ Q (.ref x) s') (fun _ _ => False) { s with heap := h₁, toks := tk₁ })
    (hco : scope.isCoroutine = false) (hgen : scope.isGenerator = false) (hk : scope.kind = .function)
    (hcell : ∀ x ∈ scope.names, x.2 ≠ .cell) : wpAny (model prog w) A (call (.ref C) vals) Q E s := by
  obtain ⟨X, hhd, A₀, base, h₀, outer, env, L, m, p, loose, mean, mg, mb, B, F, T, hA, hfr, hke⟩ := H
  refine wpAny_call ?_
  obtain ⟨hp, gg, dr, tk, os⟩ := s
  refine make_core (makes_of X hm) (looks_findIn X hi) (fun self => bind_fn X self (beq_iff_eq.mp hf)) (.inl rfl) ?_
  have st : hp.StaysIn ((hp.push emptyDict).push (instObj C hp.objs.size)) := fun b o e => Heap.get?_push_of_some _ (Heap.get?_push_of_some _ e)
  have G2 : Below A base (env :: outer) hp := by
    have G := groundX (s := (⟨hp, gg, dr, tk, os⟩ : Shared)) (R := fun _ _ => True) (news := []) B F News.nil hA hfr hke
    exact G.2.1
  have hsz : ((hp.push emptyDict).push (instObj C hp.objs.size)).objs.size = hp.objs.size + 2 := by rw [Heap.size_push, Heap.size_push]
  refine codeAny_call_def (s := (⟨(hp.push emptyDict).push (instObj C hp.objs.size), gg, dr, tk, os⟩ : Shared)) (fd := fnOf name qual params body scope dV kV doc pm an cdv ct) (body := body) (binds := (params.args.map (·.arg)).zip (.ref (hp.objs.size + 1) :: vals)) (show A.depth + 1 < recursionLimit from Nat.lt_of_le_of_lt (by omega) hr.1) (st _ _ (X _ _ ho)) rfl (T.nolimit.keeps st) ((codeRec_of X hcd).keeps st) rfl (hbind _ _) hcell (hloc _) (fun h₁ hns hk₁ => ?_) hco hgen hk
  have hd : (A.under (.builtin "type.__call__" ⟨.ref C :: vals, []⟩)).deeper (envOf qual scope ((hp.push emptyDict).push (instObj C hp.objs.size)).objs.size fI cdv) = arnd (A.depth + 1 + 1) (envOf qual scope ((hp.push emptyDict).push (instObj C hp.objs.size)).objs.size fI cdv) (env :: outer) (A.under (.builtin "type.__call__" ⟨.ref C :: vals, []⟩)).guards (A.units + 1 + 3) := by
    obtain ⟨hd, dp, fr, gs, u⟩ := A
    simp only at hhd hA
    subst hhd hA
    rfl
  have key := h A base (env :: outer) p loose mean mg mb (A.depth + 1 + 1) (A.units + 1 + 3) (A.under (.builtin "type.__call__" ⟨.ref C :: vals, []⟩)).guards ((hp.push emptyDict).push (instObj C hp.objs.size)).objs.size h₁ (tk + ((params.args.map (·.arg)).zip (.ref (hp.objs.size + 1) :: vals)).length) (hp.objs.size + 1) hp.objs.size G2 X T
    ⟨hns, fun b o e => hk₁ b o (st b o e), by rw [hsz]; exact Nat.le_add_right _ _⟩ (fun q hq => ?_) (Nat.lt_succ_self _) (by rw [hsz]; exact Nat.lt_succ_self _) (by have := hr.1; omega) (by have := hr.2; omega)
  · rw [← hd] at key
    refine wpAny_mono key (fun fl s' q => ?_) fun _ _ q => q.elim
    exact q
  · have e1 : ((hp.push emptyDict).push (instObj C hp.objs.size)).get? (hp.objs.size + 1) = some (instObj C hp.objs.size) := by
      have := Heap.get?_push_size (h := hp.push emptyDict) (o := instObj C hp.objs.size) rfl
      rwa [Heap.size_push] at this
    have e2 : ((hp.push emptyDict).push (instObj C hp.objs.size)).get? hp.objs.size = some (dictOf [] 0) := Heap.get?_push_of_some _ (Heap.get?_push_size _ rfl)
    rcases List.mem_cons.mp hq with rfl | hq
    · exact ⟨hk₁ _ _ e1, by rw [hsz]; exact Nat.ne_of_lt (Nat.lt_succ_self _), Heap.get?_none_of_le (Nat.le_succ _)⟩
    · rw [List.mem_singleton.mp hq]
      exact ⟨hk₁ _ _ e2, by rw [hsz]; exact Nat.ne_of_lt (by omega), Heap.get?_none_of_le (Nat.le_refl _)⟩
end
theorem allLt_mem {d : Nat} {l : List (Addr × Obj)} (h : AllLt d l) (p : Addr × Obj) (hp : p ∈ l) : @LT.lt Nat _ p.1 d := by
  induction l with
  | nil => cases hp
  | cons q l ih =>
    cases hp with
    | head => exact h.1
    | tail _ hp => exact ih h.2 hp
theorem ne_none {h : Heap} {a b : Addr} {o : Obj} (e : h.get? a = none) (e2 : h.get? b = some o) : @Ne Nat b a := fun q => by
  have q' : b = a := q
  rw [q', e] at e2; cases e2
end Mine
namespace Mine
set_option genInjectivity false in
set_option genSizeOf false in
structure RowM where
  r : NRow
  a : Addr
  d : Addr
  lc : Addr
  la : Addr
  ln : Addr
  k1 : Nat
  k2 : Nat
  k3 : Nat
  k4 : Nat
  k5 : Nat
  k6 : Nat
  k7 : Nat
  k8 : Nat
  k9 : Nat
  t1 : Nat
  t2 : Nat
  t3 : Nat
  t4 : Nat
  t5 : Nat
  ep : Nat
  pv : Value
  vc : List Value
  va : List Value
  vn : List Value
  nc : Nat
  na : Nat
  nn : Nat
noncomputable def RowM.dict (P : Params) (m : RowM) : Obj := dictOf (rowEnts P m.k1 m.k2 m.k3 m.k4 m.k5 m.k6 m.k7 m.k8 m.k9 (.str m.r.kind m.t1) (.str m.r.name m.t2) (.str m.r.uri m.t3) (.str m.r.loc m.t4) (.str m.r.value m.t5) m.pv (.ref m.lc) (.ref m.la) (.ref m.ln)) m.ep
noncomputable def RowM.objs (R : Addr) (P : Params) (m : RowM) : List (Addr × Obj) :=
  [(m.a, instObj R m.d), (m.d, m.dict P), (m.lc, listOf m.vc.toArray m.nc), (m.la, listOf m.va.toArray m.na), (m.ln, listOf m.vn.toArray m.nn)]
set_option genInjectivity false in
set_option genSizeOf false in
structure RowM.ok (m : RowM) : Prop where
  p : PVal m.r.parent m.pv
  c : NV m.vc m.r.children
  t : NV m.va m.r.attrs
  n : NV m.vn m.r.nss
set_option genInjectivity false in
set_option genSizeOf false in
structure RowM.tags (tag : Addr → Nat × Nat) (i : Nat) (m : RowM) : Prop where
  a : tag m.a = (i + 1, 0)
  d : tag m.d = (i + 1, 1)
  lc : tag m.lc = (i + 1, 2)
  la : tag m.la = (i + 1, 3)
  ln : tag m.ln = (i + 1, 4)
set_option genInjectivity false in
set_option genSizeOf false in
structure TreeM where
  t : Addr
  dt : Addr
  rl : Addr
  tk : Nat
  ep1 : Nat
  ep2 : Nat
  ms : List RowM
noncomputable def TreeM.rest (C : Addr) (P : Params) (M : TreeM) : List (Addr × Obj) := [(M.t, instObj C M.dt), (M.dt, dictOf [⟨PyData.keyHash P (Str.ofString "rows"), .str (Str.ofString "rows") M.tk, .ref M.rl⟩] M.ep1)]
noncomputable def TreeM.vs (M : TreeM) : List Value := M.ms.map fun m => .ref m.a
noncomputable def TreeM.led (C R : Addr) (P : Params) (M : TreeM) : List (Addr × Obj) :=
  (M.t, instObj C M.dt) :: (M.dt, dictOf [⟨PyData.keyHash P (Str.ofString "rows"), .str (Str.ofString "rows") M.tk, .ref M.rl⟩] M.ep1) :: (M.rl, listOf M.vs.toArray M.ep2) :: M.ms.flatMap (RowM.objs R P)
set_option genInjectivity false in
set_option genSizeOf false in
structure TreeM.ok (M : TreeM) (tag : Addr → Nat × Nat) : Prop where
  t : tag M.t = (0, 0)
  dt : tag M.dt = (0, 1)
  rl : tag M.rl = (0, 2)
  row : ∀ (i : Nat) (m : RowM), M.ms[i]? = some m → m.ok ∧ m.tags tag i
inductive TreeL (C R : Addr) (P : Params) (t : Addr) (T : List NRow) (l : List (Addr × Obj)) : Prop
  | ik (M : TreeM) (tag : Addr → Nat × Nat)
    (f0 : M.t = t)
    (f1 : M.ms.map (·.r) = T)
    (f2 : M.ok tag)
    (f3 : l = M.led C R P) : TreeL C R P t T l

theorem RowM.at (R : Addr) (P : Params) {h : Heap} {m : RowM} (ho : m.ok) (hm : ∀ p ∈ m.objs R P, h.get? p.1 = some p.2) : RowAt R P h m.a m.r :=
  ⟨m.d, m.lc, m.la, m.ln, m.k1, m.k2, m.k3, m.k4, m.k5, m.k6, m.k7, m.k8, m.k9, m.t1, m.t2, m.t3, m.t4, m.t5, m.ep, m.pv, hm _ (.head _), hm _ (.tail _ (.head _)), ho.p,
    ⟨m.vc, m.nc, hm _ (.tail _ (.tail _ (.head _))), ho.c⟩, ⟨m.va, m.na, hm _ (.tail _ (.tail _ (.tail _ (.head _)))), ho.t⟩, ⟨m.vn, m.nn, hm _ (.tail _ (.tail _ (.tail _ (.tail _ (.head _))))), ho.n⟩⟩
theorem TreeM.mem_row {C R : Addr} {P : Params} {M : TreeM} {i : Nat} {m : RowM} (h : M.ms[i]? = some m) : ∀ p ∈ m.objs R P, p ∈ M.led C R P :=
  fun p hp => .tail _ (.tail _ (.tail _ (List.mem_flatMap.mpr ⟨m, List.mem_of_getElem? h, hp⟩)))
theorem TreeL.at {C R : Addr} {P : Params} {h : Heap} {t : Addr} {T : List NRow} {l : List (Addr × Obj)} (H : TreeL C R P t T l) (hl : ∀ p ∈ l, h.get? p.1 = some p.2) : TreeAt C R P h t T := by
  obtain ⟨M, tag, rfl, rfl, ho, rfl⟩ := H
  refine ⟨M.dt, M.rl, M.tk, M.ep1, M.ep2, M.vs, hl _ (.head _), hl _ (.tail _ (.head _)), hl _ (.tail _ (.tail _ (.head _))), by simp [TreeM.vs], fun i r hi => ?_⟩
  rw [List.getElem?_map] at hi
  obtain ⟨m, hm, rfl⟩ := Option.map_eq_some_iff.mp hi
  refine ⟨m.a, ?_, RowM.at R P (ho.row i m hm).1 fun p hp => hl p (TreeM.mem_row hm p hp)⟩
  unfold TreeM.vs
  rw [List.getElem?_map, hm]; rfl
theorem ne_tag {tag : Addr → Nat × Nat} {a b : Addr} {x y : Nat × Nat} (h1 : tag a = x) (h2 : tag b = y) (h : x ≠ y) : @Ne Nat a b := fun e => h (by have e' : a = b := e; rw [← h1, ← h2, e'])
theorem RowM.tag_of {R : Addr} {P : Params} {tag : Addr → Nat × Nat} {i : Nat} {m : RowM} (ho : m.tags tag i) {p : Addr × Obj} (hp : p ∈ m.objs R P) : ∃ j, tag p.1 = (i + 1, j) := by
  unfold RowM.objs at hp
  simp only [List.mem_cons, List.not_mem_nil, or_false] at hp
  rcases hp with rfl | rfl | rfl | rfl | rfl
  · exact ⟨_, ho.a⟩
  · exact ⟨_, ho.d⟩
  · exact ⟨_, ho.lc⟩
  · exact ⟨_, ho.la⟩
  · exact ⟨_, ho.ln⟩
noncomputable def but (l : List (Addr × Obj)) (a : Addr) : List (Addr × Obj) := l.filter fun p => !Nat.beq p.1 a
theorem but_ne {l : List (Addr × Obj)} {a : Addr} : ∀ p ∈ but l a, p.1 ≠ a := fun p hp e => by
  have := (List.mem_filter.mp hp).2
  rw [e] at this
  simp at this
theorem but_mem {l : List (Addr × Obj)} {a : Addr} {p : Addr × Obj} (h : p ∈ l) (hn : p.1 ≠ a) : p ∈ but l a := List.mem_filter.mpr ⟨h, by
  cases e : Nat.beq p.1 a with
  | false => rfl
  | true => exact absurd (Nat.eq_of_beq_eq_true e) hn⟩
theorem but_sub {l : List (Addr × Obj)} {a : Addr} : ∀ p ∈ but l a, p ∈ l := fun p hp => (List.mem_filter.mp hp).1
theorem TreeM.turn {C R : Addr} {P : Params} {M : TreeM} {tag : Addr → Nat × Nat} (ho : M.ok tag) {i : Nat} {m m' : RowM} (hm : M.ms[i]? = some m) (ea : m'.a = m.a) (ed : m'.d = m.d) (ec : m'.lc = m.lc) (et : m'.la = m.la) (en : m'.ln = m.ln) (hok : m'.ok) :
    TreeM.ok { M with ms := M.ms.set i m' } tag ∧ (∀ p ∈ TreeM.led C R P { M with ms := M.ms.set i m' }, p ∈ m'.objs R P ∨ (p ∈ M.led C R P ∧ ∀ q ∈ m.objs R P, p.1 ≠ q.1)) := by
  have o := (ho.row i m hm).2
  have hi := (List.getElem?_eq_some_iff.mp hm).1
  refine ⟨⟨ho.t, ho.dt, ho.rl, fun j x hx => ?_⟩, fun p hp => ?_⟩
  · rw [List.getElem?_set] at hx
    by_cases hj : i = j
    · subst hj
      rw [if_pos rfl, if_pos hi] at hx
      cases hx
      exact ⟨hok, ⟨by rw [ea]; exact o.a, by rw [ed]; exact o.d, by rw [ec]; exact o.lc, by rw [et]; exact o.la, by rw [en]; exact o.ln⟩⟩
    · rw [if_neg hj] at hx
      exact ho.row j x hx
  · have hvs : TreeM.vs { M with ms := M.ms.set i m' } = M.vs := by
      unfold TreeM.vs
      apply List.ext_getElem?
      intro j
      simp only [List.getElem?_map, List.getElem?_set]
      by_cases hj : i = j
      · subst hj
        rw [if_pos rfl, if_pos hi, hm]
        simp only [Option.map_some, ea]
      · rw [if_neg hj]
    unfold TreeM.led at hp ⊢
    rw [hvs] at hp
    have far : ∀ k, ∀ q ∈ m.objs R P, ∀ b : Addr, tag b = (0, k) → b ≠ q.1 := fun k q hq b hb e => by
      obtain ⟨x, hx⟩ := RowM.tag_of o hq
      rw [e, hx] at hb
      cases hb
    rcases List.mem_cons.mp hp with rfl | hp
    · exact .inr ⟨.head _, fun q hq => far _ q hq _ ho.t⟩
    rcases List.mem_cons.mp hp with rfl | hp
    · exact .inr ⟨.tail _ (.head _), fun q hq => far _ q hq _ ho.dt⟩
    rcases List.mem_cons.mp hp with rfl | hp
    · exact .inr ⟨.tail _ (.tail _ (.head _)), fun q hq => far _ q hq _ ho.rl⟩
    obtain ⟨x, hx, hp⟩ := List.mem_flatMap.mp hp
    obtain ⟨j, hj⟩ := List.getElem?_of_mem hx
    simp only [List.getElem?_set] at hj
    by_cases e : i = j
    · subst e
      rw [if_pos rfl, if_pos hi] at hj
      cases hj
      exact .inl hp
    · rw [if_neg e] at hj
      refine .inr ⟨.tail _ (.tail _ (.tail _ (List.mem_flatMap.mpr ⟨x, List.mem_of_getElem? hj, hp⟩))), fun q hq e2 => ?_⟩
      obtain ⟨k, hk⟩ := RowM.tag_of (ho.row j x hj).2 hp
      obtain ⟨k', hk'⟩ := RowM.tag_of o hq
      rw [e2, hk'] at hk
      have := (Prod.mk.inj hk).1
      omega
theorem TreeM.push {C R : Addr} {P : Params} {M : TreeM} {tag : Addr → Nat × Nat} (ho : M.ok tag) {m : RowM} (hok : m.ok) (e : Nat) (hd : (m.objs R P).Pairwise fun p q => @Ne Nat p.1 q.1) (hn : ∀ p ∈ m.objs R P, ∀ q ∈ M.led C R P, @Ne Nat q.1 p.1) :
    (∃ tag', TreeM.ok { M with ms := M.ms ++ [m], ep2 := e } tag') ∧ (∀ p ∈ TreeM.led C R P { M with ms := M.ms ++ [m], ep2 := e }, p = (M.rl, listOf (M.vs ++ [Value.ref m.a]).toArray e) ∨ p ∈ m.objs R P ∨ (p ∈ M.led C R P ∧ p.1 ≠ M.rl)) := by
  constructor
  · refine ⟨fun b => if Nat.beq b m.a then (M.ms.length + 1, 0) else if Nat.beq b m.d then (M.ms.length + 1, 1) else if Nat.beq b m.lc then (M.ms.length + 1, 2) else if Nat.beq b m.la then (M.ms.length + 1, 3) else if Nat.beq b m.ln then (M.ms.length + 1, 4) else tag b, ?_⟩
    have nb : ∀ {x y : Nat}, x ≠ y → Nat.beq x y = false := fun {x y} h => by
      cases e : Nat.beq x y with
      | false => rfl
      | true => exact absurd (Nat.eq_of_beq_eq_true e) h
    have old : ∀ q ∈ M.led C R P, (fun b => if Nat.beq b m.a then (M.ms.length + 1, 0) else if Nat.beq b m.d then (M.ms.length + 1, 1) else if Nat.beq b m.lc then (M.ms.length + 1, 2) else if Nat.beq b m.la then (M.ms.length + 1, 3) else if Nat.beq b m.ln then (M.ms.length + 1, 4) else tag b) q.1 = tag q.1 := by
      intro q hq
      have h1 := hn _ (.head _) q hq
      have h2 := hn _ (.tail _ (.head _)) q hq
      have h3 := hn _ (.tail _ (.tail _ (.head _))) q hq
      have h4 := hn _ (.tail _ (.tail _ (.tail _ (.head _)))) q hq
      have h5 := hn _ (.tail _ (.tail _ (.tail _ (.tail _ (.head _))))) q hq
      simp only [nb h1, nb h2, nb h3, nb h4, nb h5, Bool.false_eq_true, if_false]
    refine ⟨(old _ (.head _)).trans ho.t, (old _ (.tail _ (.head _))).trans ho.dt, (old _ (.tail _ (.tail _ (.head _)))).trans ho.rl, fun j x hx => ?_⟩
    by_cases hj : j < M.ms.length
    · rw [List.getElem?_append_left hj] at hx
      obtain ⟨h1, h2⟩ := ho.row j x hx
      have mr := TreeM.mem_row (C := C) (R := R) (P := P) hx
      exact ⟨h1, (old _ (mr _ (.head _))).trans h2.a, (old _ (mr _ (.tail _ (.head _)))).trans h2.d, (old _ (mr _ (.tail _ (.tail _ (.head _))))).trans h2.lc, (old _ (mr _ (.tail _ (.tail _ (.tail _ (.head _)))))).trans h2.la, (old _ (mr _ (.tail _ (.tail _ (.tail _ (.tail _ (.head _))))))).trans h2.ln⟩
    · rw [List.getElem?_append_right (by omega)] at hx
      have ej : j = M.ms.length := by have := (List.getElem?_eq_some_iff.mp hx).1; simp at this; omega
      subst ej
      simp at hx
      subst hx
      simp only [RowM.objs, List.pairwise_cons, List.mem_cons, List.not_mem_nil, or_false, forall_eq_or_imp, forall_eq] at hd
      obtain ⟨⟨a1, a2, a3, a4⟩, ⟨b1, b2, b3⟩, ⟨c1, c2⟩, d1, _⟩ := hd
      refine ⟨hok, ⟨?_, ?_, ?_, ?_, ?_⟩⟩
      · simp
      · simp [nb (Ne.symm a1)]
      · simp [nb (Ne.symm a2), nb (Ne.symm b1)]
      · simp [nb (Ne.symm a3), nb (Ne.symm b2), nb (Ne.symm c1)]
      · simp [nb (Ne.symm a4), nb (Ne.symm b3), nb (Ne.symm c2), nb (Ne.symm d1)]
  · intro p hp
    have hvs : TreeM.vs { M with ms := M.ms ++ [m], ep2 := e } = M.vs ++ [.ref m.a] := by simp [TreeM.vs]
    unfold TreeM.led at hp
    rw [hvs] at hp
    rcases List.mem_cons.mp hp with rfl | hp
    · exact .inr (.inr ⟨.head _, ne_tag ho.t ho.rl (fun e => nomatch e)⟩)
    rcases List.mem_cons.mp hp with rfl | hp
    · exact .inr (.inr ⟨.tail _ (.head _), ne_tag ho.dt ho.rl (fun e => nomatch e)⟩)
    rcases List.mem_cons.mp hp with rfl | hp
    · exact .inl rfl
    rw [List.flatMap_append] at hp
    rcases List.mem_append.mp hp with hp | hp
    · obtain ⟨x, hx, hp⟩ := List.mem_flatMap.mp hp
      obtain ⟨j, hj⟩ := List.getElem?_of_mem hx
      obtain ⟨k, hk⟩ := RowM.tag_of (ho.row j x hj).2 hp
      exact .inr (.inr ⟨.tail _ (.tail _ (.tail _ (List.mem_flatMap.mpr ⟨x, hx, hp⟩))), ne_tag hk ho.rl (fun e => nomatch e)⟩)
    · simp only [List.flatMap_cons, List.flatMap_nil, List.append_nil] at hp
      exact .inr (.inl hp)
theorem RowM.made {h h' : Heap} {R : Addr} {P : Params} {x dx lc la ln : Addr} {k1 k2 k3 k4 k5 k6 k7 k8 k9 t1 t2 t3 t4 t5 ep : Nat} {kind name uri loc value : Str} {po : Option Nat} {pv : Value} (hpv : PVal po pv)
    (H : Hid h h' [(ln, listOf #[] 0), (la, listOf #[] 0), (lc, listOf #[] 0), (x, instObj R dx), (dx, dictOf (rowEnts P k1 k2 k3 k4 k5 k6 k7 k8 k9 (.str kind t1) (.str name t2) (.str uri t3) (.str loc t4) (.str value t5) pv (.ref lc) (.ref la) (.ref ln)) ep)])
    (l1 : @LT.lt Nat _ dx x) (l2 : @LT.lt Nat _ x lc) (l3 : @LT.lt Nat _ lc la) (l4 : @LT.lt Nat _ la ln) :
    ∃ m : RowM, Value.ref x = .ref m.a ∧ m.r = ⟨kind, name, uri, loc, value, po, [], [], []⟩ ∧ m.ok ∧ Hid h h' (m.objs R P) ∧ (m.objs R P).Pairwise fun p q => @Ne Nat p.1 q.1 := by
  refine ⟨⟨⟨kind, name, uri, loc, value, po, [], [], []⟩, x, dx, lc, la, ln, k1, k2, k3, k4, k5, k6, k7, k8, k9, t1, t2, t3, t4, t5, ep, pv, [], [], [], 0, 0, 0⟩, rfl, rfl, ⟨hpv, NV.nil, NV.nil, NV.nil⟩, ?_, ?_⟩
  · intro p hp
    simp only [RowM.objs, List.mem_cons, List.not_mem_nil, or_false] at hp
    refine H p ?_
    rcases hp with rfl | rfl | rfl | rfl | rfl
    · exact .tail _ (.tail _ (.tail _ (.head _)))
    · exact .tail _ (.tail _ (.tail _ (.tail _ (.head _))))
    · exact .tail _ (.tail _ (.head _))
    · exact .tail _ (.head _)
    · exact .head _
  · simp only [RowM.objs, List.pairwise_cons, List.mem_cons, List.not_mem_nil, or_false, forall_eq_or_imp, forall_eq, List.Pairwise.nil, and_true, false_implies, implies_true]
    refine ⟨⟨?_, ?_, ?_, ?_⟩, ⟨?_, ?_, ?_⟩, ⟨?_, ?_⟩, ?_⟩ <;> omega
theorem news_hid {g h h1 : Heap} {L : Addr} {m : Str → Option Value} {news l : List (Addr × Obj)} (F : Fr g L h m) (N : News g L h1 news) (H : Hid h h1 l) : News g L h1 (l ++ news) := fun p hp => by
  rcases List.mem_append.mp hp with hp | hp
  · have a := H p hp
    refine ⟨a.1, fun e => ?_, ?_⟩
    · obtain ⟨oL, _, _, hL, _⟩ := F.ns
      rw [e, hL] at a; cases a.2
    · cases q : g.get? p.1 with
      | none => rfl
      | some o => have := F.keep _ _ q; rw [a.2] at this; cases this
  · exact N p hp
theorem hid_ne {h h1 : Heap} {l : List (Addr × Obj)} (H : Hid h h1 l) {b : Addr} {o : Obj} (e : h.get? b = some o) : ∀ p ∈ l, @Ne Nat p.1 b := fun p hp q => by
  have q' : p.1 = b := q
  have := (H p hp).2
  rw [q', e] at this; cases this
theorem TreeM.vs_len (M : TreeM) : M.vs.length = M.ms.length := by simp [TreeM.vs]
theorem int_ex {a b : Int} {t : Tok} (h : a = b) : ∃ tk, Value.int a t = .int b tk := ⟨t, by rw [h]⟩
noncomputable abbrev TreeM.top (C : Addr) (P : Params) (M : TreeM) (r : List (Addr × Obj)) : List (Addr × Obj) := (M.t, instObj C M.dt) :: (M.dt, dictOf [⟨PyData.keyHash P (Str.ofString "rows"), .str (Str.ofString "rows") M.tk, .ref M.rl⟩] M.ep1) :: (M.rl, listOf M.vs.toArray M.ep2) :: r
noncomputable abbrev RowM.ent (P : Params) (m : RowM) : Obj := dictOf (rowEnts P m.k1 m.k2 m.k3 m.k4 m.k5 m.k6 m.k7 m.k8 m.k9 (.str m.r.kind m.t1) (.str m.r.name m.t2) (.str m.r.uri m.t3) (.str m.r.loc m.t4) (.str m.r.value m.t5) m.pv (.ref m.lc) (.ref m.la) (.ref m.ln)) m.ep
theorem TreeM.pick_lc {C R : Addr} {P : Params} {M : TreeM} {tag : Addr → Nat × Nat} (ho : M.ok tag) {i : Nat} {m : RowM} (hm : M.ms[i]? = some m) {g h : Heap} {L : Addr} (N : News g L h (M.led C R P)) :
    News g L h ((m.lc, listOf m.vc.toArray m.nc) :: M.top C P ((m.a, instObj R m.d) :: (m.d, m.ent P) :: but (M.led C R P) m.lc)) ∧ ∀ p ∈ M.top C P ((m.a, instObj R m.d) :: (m.d, m.ent P) :: but (M.led C R P) m.lc), p.1 ≠ m.lc := by
  have o := (ho.row i m hm).2
  have mr := TreeM.mem_row (C := C) (R := R) (P := P) hm
  refine ⟨News.sub N fun p hp => ?_, ?_⟩
  · rcases List.mem_cons.mp hp with rfl | hp
    · exact mr _ (.tail _ (.tail _ (.head _)))
    rcases List.mem_cons.mp hp with rfl | hp
    · exact .head _
    rcases List.mem_cons.mp hp with rfl | hp
    · exact .tail _ (.head _)
    rcases List.mem_cons.mp hp with rfl | hp
    · exact .tail _ (.tail _ (.head _))
    rcases List.mem_cons.mp hp with rfl | hp
    · exact mr _ (.head _)
    rcases List.mem_cons.mp hp with rfl | hp
    · exact mr _ (.tail _ (.head _))
    · exact but_sub p hp
  · exact List.forall_mem_cons.mpr ⟨ne_tag ho.t o.lc (by simp), List.forall_mem_cons.mpr ⟨ne_tag ho.dt o.lc (by simp), List.forall_mem_cons.mpr ⟨ne_tag ho.rl o.lc (by simp), List.forall_mem_cons.mpr ⟨ne_tag o.a o.lc (by simp), List.forall_mem_cons.mpr ⟨ne_tag o.d o.lc (by simp), but_ne⟩⟩⟩⟩⟩
theorem TreeM.lay_lc {C R : Addr} {P : Params} {M : TreeM} {tag : Addr → Nat × Nat} (ho : M.ok tag) {i : Nat} {m : RowM} (hm : M.ms[i]? = some m) {g h : Heap} {x n : Nat} {tx : Tok}
    (H : Hid g h ((m.lc, listOf (m.vc ++ [Value.int x tx]).toArray n) :: M.top C P ((m.a, instObj R m.d) :: (m.d, m.ent P) :: but (M.led C R P) m.lc))) :
    ∃ l, TreeL C R P M.t ((M.ms.map (·.r)).set i { m.r with children := m.r.children ++ [x] }) l ∧ Hid g h l := by
  obtain ⟨h1, h2⟩ := ho.row i m hm
  obtain ⟨a, b⟩ := TreeM.turn (C := C) (R := R) (P := P) ho hm (m' := { m with r := { m.r with children := m.r.children ++ [x] }, vc := m.vc ++ [.int x tx], nc := n }) rfl rfl rfl rfl rfl (by first | exact ⟨h1.p, h1.c.snoc x tx, h1.t, h1.n⟩ | exact ⟨h1.p, h1.c, h1.t.snoc x tx, h1.n⟩ | exact ⟨h1.p, h1.c, h1.t, h1.n.snoc x tx⟩)
  refine ⟨_, ⟨{ M with ms := M.ms.set i { m with r := { m.r with children := m.r.children ++ [x] }, vc := m.vc ++ [.int x tx], nc := n } }, tag, rfl, by simp [List.map_set], a, rfl⟩, fun p hp => ?_⟩
  have mr := TreeM.mem_row (C := C) (R := R) (P := P) hm
  have old : ∀ q ∈ m.objs R P, q.1 ≠ m.lc → h.get? q.1 = some q.2 ∧ g.get? q.1 = none := fun q hq hn => H q (.tail _ (.tail _ (.tail _ (.tail _ (.tail _ (.tail _ (but_mem (mr q hq) hn)))))))
  rcases b p hp with hp | ⟨hp, hn⟩
  · simp only [RowM.objs, List.mem_cons, List.not_mem_nil, or_false] at hp
    rcases hp with rfl | rfl | rfl | rfl | rfl
    · exact old _ (.head _) (ne_tag h2.a h2.lc (by simp))
    · exact old _ (.tail _ (.head _)) (ne_tag h2.d h2.lc (by simp))
    · first | exact H _ (.head _) | exact old _ (.tail _ (.tail _ (.head _))) (ne_tag h2.lc h2.lc (by simp))
    · first | exact H _ (.head _) | exact old _ (.tail _ (.tail _ (.tail _ (.head _)))) (ne_tag h2.la h2.lc (by simp))
    · first | exact H _ (.head _) | exact old _ (.tail _ (.tail _ (.tail _ (.tail _ (.head _))))) (ne_tag h2.ln h2.lc (by simp))
  · exact H p (.tail _ (.tail _ (.tail _ (.tail _ (.tail _ (.tail _ (but_mem hp (hn (m.lc, listOf m.vc.toArray m.nc) (.tail _ (.tail _ (.head _)))))))))))
theorem TreeM.pick_la {C R : Addr} {P : Params} {M : TreeM} {tag : Addr → Nat × Nat} (ho : M.ok tag) {i : Nat} {m : RowM} (hm : M.ms[i]? = some m) {g h : Heap} {L : Addr} (N : News g L h (M.led C R P)) :
    News g L h ((m.la, listOf m.va.toArray m.na) :: M.top C P ((m.a, instObj R m.d) :: (m.d, m.ent P) :: but (M.led C R P) m.la)) ∧ ∀ p ∈ M.top C P ((m.a, instObj R m.d) :: (m.d, m.ent P) :: but (M.led C R P) m.la), p.1 ≠ m.la := by
  have o := (ho.row i m hm).2
  have mr := TreeM.mem_row (C := C) (R := R) (P := P) hm
  refine ⟨News.sub N fun p hp => ?_, ?_⟩
  · rcases List.mem_cons.mp hp with rfl | hp
    · exact mr _ (.tail _ (.tail _ (.tail _ (.head _))))
    rcases List.mem_cons.mp hp with rfl | hp
    · exact .head _
    rcases List.mem_cons.mp hp with rfl | hp
    · exact .tail _ (.head _)
    rcases List.mem_cons.mp hp with rfl | hp
    · exact .tail _ (.tail _ (.head _))
    rcases List.mem_cons.mp hp with rfl | hp
    · exact mr _ (.head _)
    rcases List.mem_cons.mp hp with rfl | hp
    · exact mr _ (.tail _ (.head _))
    · exact but_sub p hp
  · exact List.forall_mem_cons.mpr ⟨ne_tag ho.t o.la (by simp), List.forall_mem_cons.mpr ⟨ne_tag ho.dt o.la (by simp), List.forall_mem_cons.mpr ⟨ne_tag ho.rl o.la (by simp), List.forall_mem_cons.mpr ⟨ne_tag o.a o.la (by simp), List.forall_mem_cons.mpr ⟨ne_tag o.d o.la (by simp), but_ne⟩⟩⟩⟩⟩
theorem TreeM.lay_la {C R : Addr} {P : Params} {M : TreeM} {tag : Addr → Nat × Nat} (ho : M.ok tag) {i : Nat} {m : RowM} (hm : M.ms[i]? = some m) {g h : Heap} {x n : Nat} {tx : Tok}
    (H : Hid g h ((m.la, listOf (m.va ++ [Value.int x tx]).toArray n) :: M.top C P ((m.a, instObj R m.d) :: (m.d, m.ent P) :: but (M.led C R P) m.la))) :
    ∃ l, TreeL C R P M.t ((M.ms.map (·.r)).set i { m.r with attrs := m.r.attrs ++ [x] }) l ∧ Hid g h l := by
  obtain ⟨h1, h2⟩ := ho.row i m hm
  obtain ⟨a, b⟩ := TreeM.turn (C := C) (R := R) (P := P) ho hm (m' := { m with r := { m.r with attrs := m.r.attrs ++ [x] }, va := m.va ++ [.int x tx], na := n }) rfl rfl rfl rfl rfl (by first | exact ⟨h1.p, h1.c.snoc x tx, h1.t, h1.n⟩ | exact ⟨h1.p, h1.c, h1.t.snoc x tx, h1.n⟩ | exact ⟨h1.p, h1.c, h1.t, h1.n.snoc x tx⟩)
  refine ⟨_, ⟨{ M with ms := M.ms.set i { m with r := { m.r with attrs := m.r.attrs ++ [x] }, va := m.va ++ [.int x tx], na := n } }, tag, rfl, by simp [List.map_set], a, rfl⟩, fun p hp => ?_⟩
  have mr := TreeM.mem_row (C := C) (R := R) (P := P) hm
  have old : ∀ q ∈ m.objs R P, q.1 ≠ m.la → h.get? q.1 = some q.2 ∧ g.get? q.1 = none := fun q hq hn => H q (.tail _ (.tail _ (.tail _ (.tail _ (.tail _ (.tail _ (but_mem (mr q hq) hn)))))))
  rcases b p hp with hp | ⟨hp, hn⟩
  · simp only [RowM.objs, List.mem_cons, List.not_mem_nil, or_false] at hp
    rcases hp with rfl | rfl | rfl | rfl | rfl
    · exact old _ (.head _) (ne_tag h2.a h2.la (by simp))
    · exact old _ (.tail _ (.head _)) (ne_tag h2.d h2.la (by simp))
    · first | exact H _ (.head _) | exact old _ (.tail _ (.tail _ (.head _))) (ne_tag h2.lc h2.la (by simp))
    · first | exact H _ (.head _) | exact old _ (.tail _ (.tail _ (.tail _ (.head _)))) (ne_tag h2.la h2.la (by simp))
    · first | exact H _ (.head _) | exact old _ (.tail _ (.tail _ (.tail _ (.tail _ (.head _))))) (ne_tag h2.ln h2.la (by simp))
  · exact H p (.tail _ (.tail _ (.tail _ (.tail _ (.tail _ (.tail _ (but_mem hp (hn (m.la, listOf m.va.toArray m.na) (.tail _ (.tail _ (.tail _ (.head _))))))))))))
theorem TreeM.pick_ln {C R : Addr} {P : Params} {M : TreeM} {tag : Addr → Nat × Nat} (ho : M.ok tag) {i : Nat} {m : RowM} (hm : M.ms[i]? = some m) {g h : Heap} {L : Addr} (N : News g L h (M.led C R P)) :
    News g L h ((m.ln, listOf m.vn.toArray m.nn) :: M.top C P ((m.a, instObj R m.d) :: (m.d, m.ent P) :: but (M.led C R P) m.ln)) ∧ ∀ p ∈ M.top C P ((m.a, instObj R m.d) :: (m.d, m.ent P) :: but (M.led C R P) m.ln), p.1 ≠ m.ln := by
  have o := (ho.row i m hm).2
  have mr := TreeM.mem_row (C := C) (R := R) (P := P) hm
  refine ⟨News.sub N fun p hp => ?_, ?_⟩
  · rcases List.mem_cons.mp hp with rfl | hp
    · exact mr _ (.tail _ (.tail _ (.tail _ (.tail _ (.head _)))))
    rcases List.mem_cons.mp hp with rfl | hp
    · exact .head _
    rcases List.mem_cons.mp hp with rfl | hp
    · exact .tail _ (.head _)
    rcases List.mem_cons.mp hp with rfl | hp
    · exact .tail _ (.tail _ (.head _))
    rcases List.mem_cons.mp hp with rfl | hp
    · exact mr _ (.head _)
    rcases List.mem_cons.mp hp with rfl | hp
    · exact mr _ (.tail _ (.head _))
    · exact but_sub p hp
  · exact List.forall_mem_cons.mpr ⟨ne_tag ho.t o.ln (by simp), List.forall_mem_cons.mpr ⟨ne_tag ho.dt o.ln (by simp), List.forall_mem_cons.mpr ⟨ne_tag ho.rl o.ln (by simp), List.forall_mem_cons.mpr ⟨ne_tag o.a o.ln (by simp), List.forall_mem_cons.mpr ⟨ne_tag o.d o.ln (by simp), but_ne⟩⟩⟩⟩⟩
theorem TreeM.lay_ln {C R : Addr} {P : Params} {M : TreeM} {tag : Addr → Nat × Nat} (ho : M.ok tag) {i : Nat} {m : RowM} (hm : M.ms[i]? = some m) {g h : Heap} {x n : Nat} {tx : Tok}
    (H : Hid g h ((m.ln, listOf (m.vn ++ [Value.int x tx]).toArray n) :: M.top C P ((m.a, instObj R m.d) :: (m.d, m.ent P) :: but (M.led C R P) m.ln))) :
    ∃ l, TreeL C R P M.t ((M.ms.map (·.r)).set i { m.r with nss := m.r.nss ++ [x] }) l ∧ Hid g h l := by
  obtain ⟨h1, h2⟩ := ho.row i m hm
  obtain ⟨a, b⟩ := TreeM.turn (C := C) (R := R) (P := P) ho hm (m' := { m with r := { m.r with nss := m.r.nss ++ [x] }, vn := m.vn ++ [.int x tx], nn := n }) rfl rfl rfl rfl rfl (by first | exact ⟨h1.p, h1.c.snoc x tx, h1.t, h1.n⟩ | exact ⟨h1.p, h1.c, h1.t.snoc x tx, h1.n⟩ | exact ⟨h1.p, h1.c, h1.t, h1.n.snoc x tx⟩)
  refine ⟨_, ⟨{ M with ms := M.ms.set i { m with r := { m.r with nss := m.r.nss ++ [x] }, vn := m.vn ++ [.int x tx], nn := n } }, tag, rfl, by simp [List.map_set], a, rfl⟩, fun p hp => ?_⟩
  have mr := TreeM.mem_row (C := C) (R := R) (P := P) hm
  have old : ∀ q ∈ m.objs R P, q.1 ≠ m.ln → h.get? q.1 = some q.2 ∧ g.get? q.1 = none := fun q hq hn => H q (.tail _ (.tail _ (.tail _ (.tail _ (.tail _ (.tail _ (but_mem (mr q hq) hn)))))))
  rcases b p hp with hp | ⟨hp, hn⟩
  · simp only [RowM.objs, List.mem_cons, List.not_mem_nil, or_false] at hp
    rcases hp with rfl | rfl | rfl | rfl | rfl
    · exact old _ (.head _) (ne_tag h2.a h2.ln (by simp))
    · exact old _ (.tail _ (.head _)) (ne_tag h2.d h2.ln (by simp))
    · first | exact H _ (.head _) | exact old _ (.tail _ (.tail _ (.head _))) (ne_tag h2.lc h2.ln (by simp))
    · first | exact H _ (.head _) | exact old _ (.tail _ (.tail _ (.tail _ (.head _)))) (ne_tag h2.la h2.ln (by simp))
    · first | exact H _ (.head _) | exact old _ (.tail _ (.tail _ (.tail _ (.tail _ (.head _))))) (ne_tag h2.ln h2.ln (by simp))
  · exact H p (.tail _ (.tail _ (.tail _ (.tail _ (.tail _ (.tail _ (but_mem hp (hn (m.ln, listOf m.vn.toArray m.nn) (.tail _ (.tail _ (.tail _ (.tail _ (.head _)))))))))))))
theorem TreeL.made {h h' : Heap} {C R : Addr} {P : Params} {x dx rl : Addr} {k ep : Nat}
    (H : Hid h h' [(rl, listOf #[] 0), (x, instObj C dx), (dx, dictOf [⟨PyData.keyHash P (Str.ofString "rows"), .str (Str.ofString "rows") k, .ref rl⟩] ep)]) (l1 : @LT.lt Nat _ dx x) (l2 : @LT.lt Nat _ x rl) :
    ∃ (t : Addr) (l : List (Addr × Obj)), Value.ref x = .ref t ∧ TreeL C R P t [] l ∧ Hid h h' l := by
  refine ⟨x, _, rfl, ⟨⟨x, dx, rl, k, ep, 0, []⟩, fun b => if Nat.beq b x then (0, 0) else if Nat.beq b dx then (0, 1) else (0, 2), rfl, rfl, ⟨?_, ?_, ?_, fun i m hm => by cases hm⟩, rfl⟩, fun p hp => ?_⟩
  · simp
  · have : Nat.beq dx x = false := by
      cases e : Nat.beq dx x with
      | false => rfl
      | true => have := Nat.eq_of_beq_eq_true e; omega
    simp [this]
  · have h1 : Nat.beq rl x = false := by
      cases e : Nat.beq rl x with
      | false => rfl
      | true => have := Nat.eq_of_beq_eq_true e; omega
    have h2 : Nat.beq rl dx = false := by
      cases e : Nat.beq rl dx with
      | false => rfl
      | true => have := Nat.eq_of_beq_eq_true e; omega
    simp [h1, h2]
  · simp only [TreeM.led, TreeM.vs, List.map_nil, List.flatMap_nil, List.mem_cons, List.not_mem_nil, or_false] at hp
    rcases hp with rfl | rfl | rfl
    · exact H _ (.tail _ (.head _))
    · exact H _ (.tail _ (.tail _ (.head _)))
    · exact H _ (.head _)
theorem TreeM.get {M : TreeM} {T : List NRow} (h : M.ms.map (·.r) = T) {i : Nat} {r : NRow} (hi : T[i]? = some r) : ∃ m, M.ms[i]? = some m ∧ m.r = r ∧ M.vs[i]? = some (Value.ref m.a) := by
  subst h
  rw [List.getElem?_map] at hi
  obtain ⟨m, hm, rfl⟩ := Option.map_eq_some_iff.mp hi
  exact ⟨m, hm, rfl, by unfold TreeM.vs; rw [List.getElem?_map, hm]; rfl⟩
noncomputable abbrev RowM.ent2 (P : Params) (m : RowM) (name value : Str) (t2 t5 ep : Nat) : Obj := dictOf (rowEnts P m.k1 m.k2 m.k3 m.k4 m.k5 m.k6 m.k7 m.k8 m.k9 (.str m.r.kind m.t1) (.str name t2) (.str m.r.uri m.t3) (.str m.r.loc m.t4) (.str value t5) m.pv (.ref m.lc) (.ref m.la) (.ref m.ln)) ep
theorem TreeM.pick_d {C R : Addr} {P : Params} {M : TreeM} {tag : Addr → Nat × Nat} (ho : M.ok tag) {i : Nat} {m : RowM} (hm : M.ms[i]? = some m) {g h : Heap} {L : Addr} (N : News g L h (M.led C R P)) :
    News g L h ((m.d, m.ent P) :: M.top C P ((m.a, instObj R m.d) :: but (M.led C R P) m.d)) ∧ ∀ p ∈ M.top C P ((m.a, instObj R m.d) :: but (M.led C R P) m.d), p.1 ≠ m.d := by
  have o := (ho.row i m hm).2
  have mr := TreeM.mem_row (C := C) (R := R) (P := P) hm
  refine ⟨News.sub N fun p hp => ?_, ?_⟩
  · rcases List.mem_cons.mp hp with rfl | hp
    · exact mr _ (.tail _ (.head _))
    rcases List.mem_cons.mp hp with rfl | hp
    · exact .head _
    rcases List.mem_cons.mp hp with rfl | hp
    · exact .tail _ (.head _)
    rcases List.mem_cons.mp hp with rfl | hp
    · exact .tail _ (.tail _ (.head _))
    rcases List.mem_cons.mp hp with rfl | hp
    · exact mr _ (.head _)
    · exact but_sub p hp
  · exact List.forall_mem_cons.mpr ⟨ne_tag ho.t o.d (by simp), List.forall_mem_cons.mpr ⟨ne_tag ho.dt o.d (by simp), List.forall_mem_cons.mpr ⟨ne_tag ho.rl o.d (by simp), List.forall_mem_cons.mpr ⟨ne_tag o.a o.d (by simp), but_ne⟩⟩⟩⟩
theorem TreeM.lay_d {C R : Addr} {P : Params} {M : TreeM} {tag : Addr → Nat × Nat} (ho : M.ok tag) {i : Nat} {m : RowM} (hm : M.ms[i]? = some m) {g h : Heap} {name value : Str} {t2 t5 ep : Nat}
    (H : Hid g h ((m.d, m.ent2 P name value t2 t5 ep) :: M.top C P ((m.a, instObj R m.d) :: but (M.led C R P) m.d))) :
    ∃ l, TreeL C R P M.t ((M.ms.map (·.r)).set i { m.r with name := name, value := value }) l ∧ Hid g h l := by
  obtain ⟨h1, h2⟩ := ho.row i m hm
  obtain ⟨a, b⟩ := TreeM.turn (C := C) (R := R) (P := P) ho hm (m' := { m with r := { m.r with name := name, value := value }, t2 := t2, t5 := t5, ep := ep }) rfl rfl rfl rfl rfl ⟨h1.p, h1.c, h1.t, h1.n⟩
  refine ⟨_, ⟨{ M with ms := M.ms.set i { m with r := { m.r with name := name, value := value }, t2 := t2, t5 := t5, ep := ep } }, tag, rfl, by simp [List.map_set], a, rfl⟩, fun p hp => ?_⟩
  have mr := TreeM.mem_row (C := C) (R := R) (P := P) hm
  have old : ∀ q ∈ m.objs R P, q.1 ≠ m.d → h.get? q.1 = some q.2 ∧ g.get? q.1 = none := fun q hq hn => H q (.tail _ (.tail _ (.tail _ (.tail _ (.tail _ (but_mem (mr q hq) hn))))))
  rcases b p hp with hp | ⟨hp, hn⟩
  · simp only [RowM.objs, List.mem_cons, List.not_mem_nil, or_false] at hp
    rcases hp with rfl | rfl | rfl | rfl | rfl
    · exact old _ (.head _) (ne_tag h2.a h2.d (by simp))
    · exact H _ (.head _)
    · exact old _ (.tail _ (.tail _ (.head _))) (ne_tag h2.lc h2.d (by simp))
    · exact old _ (.tail _ (.tail _ (.tail _ (.head _)))) (ne_tag h2.la h2.d (by simp))
    · exact old _ (.tail _ (.tail _ (.tail _ (.tail _ (.head _))))) (ne_tag h2.ln h2.d (by simp))
  · exact H p (.tail _ (.tail _ (.tail _ (.tail _ (.tail _ (but_mem hp (hn (m.d, m.dict P) (.tail _ (.head _)))))))))
noncomputable abbrev TreeM.view (C R : Addr) (P : Params) (M : TreeM) (m : RowM) : List (Addr × Obj) := M.top C P ((m.a, instObj R m.d) :: (m.d, m.ent P) :: (m.lc, listOf m.vc.toArray m.nc) :: (m.la, listOf m.va.toArray m.na) :: (m.ln, listOf m.vn.toArray m.nn) :: M.led C R P)
theorem TreeM.view_sub {C R : Addr} {P : Params} {M : TreeM} {i : Nat} {m : RowM} (hm : M.ms[i]? = some m) : ∀ p ∈ M.view C R P m, p ∈ M.led C R P := by
  intro p hp
  have mr := TreeM.mem_row (C := C) (R := R) (P := P) hm
  rcases List.mem_cons.mp hp with rfl | hp
  · exact .head _
  rcases List.mem_cons.mp hp with rfl | hp
  · exact .tail _ (.head _)
  rcases List.mem_cons.mp hp with rfl | hp
  · exact .tail _ (.tail _ (.head _))
  rcases List.mem_cons.mp hp with rfl | hp
  · exact mr _ (.head _)
  rcases List.mem_cons.mp hp with rfl | hp
  · exact mr _ (.tail _ (.head _))
  rcases List.mem_cons.mp hp with rfl | hp
  · exact mr _ (.tail _ (.tail _ (.head _)))
  rcases List.mem_cons.mp hp with rfl | hp
  · exact mr _ (.tail _ (.tail _ (.tail _ (.head _))))
  rcases List.mem_cons.mp hp with rfl | hp
  · exact mr _ (.tail _ (.tail _ (.tail _ (.tail _ (.head _)))))
  · exact hp
theorem put_name (P : Params) (k1 k2 k3 k4 k5 k6 k7 k8 k9 ep : Nat) (v1 v2 v3 v4 v5 v6 v7 v8 v9 v key : Value) (h : Int) :
    (putL (Str.ofString "name") h key v (rowEnts P k1 k2 k3 k4 k5 k6 k7 k8 k9 v1 v2 v3 v4 v5 v6 v7 v8 v9), putN (Str.ofString "name") (rowEnts P k1 k2 k3 k4 k5 k6 k7 k8 k9 v1 v2 v3 v4 v5 v6 v7 v8 v9) ep) = (rowEnts P k1 k2 k3 k4 k5 k6 k7 k8 k9 v1 v v3 v4 v5 v6 v7 v8 v9, ep) := by
  with_unfolding_all rfl
theorem put_value (P : Params) (k1 k2 k3 k4 k5 k6 k7 k8 k9 ep : Nat) (v1 v2 v3 v4 v5 v6 v7 v8 v9 v key : Value) (h : Int) :
    (putL (Str.ofString "value") h key v (rowEnts P k1 k2 k3 k4 k5 k6 k7 k8 k9 v1 v2 v3 v4 v5 v6 v7 v8 v9), putN (Str.ofString "value") (rowEnts P k1 k2 k3 k4 k5 k6 k7 k8 k9 v1 v2 v3 v4 v5 v6 v7 v8 v9) ep) = (rowEnts P k1 k2 k3 k4 k5 k6 k7 k8 k9 v1 v2 v3 v4 v v6 v7 v8 v9, ep) := by
  with_unfolding_all rfl
end Mine
namespace Mine
theorem WF.grow {T T' : List NRow} (W : WF T) (hn : T.length < 59) (hlen : T'.length = T.length + 1) {i : Nat} (hi : i < T.length) (kd : Str)
    (par' : ∀ x, par T' x = if x = T.length then some i else par T x) (kind' : ∀ x, kindOf T' x = if x = T.length then kd else kindOf T x)
    (kids' : ∀ x, kids T' x = if x = i ∧ kd ≠ sAttr ∧ kd ≠ sNs then kids T x ++ [T.length] else kids T x)
    (atts' : ∀ x, atts T' x = if x = i ∧ kd = sAttr then atts T x ++ [T.length] else atts T x)
    (nsps' : ∀ x, nsps T' x = if x = i ∧ kd = sNs then nsps T x ++ [T.length] else nsps T x)
    (hk : kd ≠ sRoot) (hpar : kindOf T i = sElem ∨ (kindOf T i = sRoot ∧ kd ≠ sAttr ∧ kd ≠ sNs)) : WF T' := by
  have pl : ∀ x, x < T.length → par T' x = par T x := fun x hx => by rw [par', if_neg (by omega)]
  have kl : ∀ x, x < T.length → kindOf T' x = kindOf T x := fun x hx => by rw [kind', if_neg (by omega)]
  have pn : par T' T.length = some i := by rw [par', if_pos rfl]
  have kn : kindOf T' T.length = kd := by rw [kind', if_pos rfl]
  have nk : ∀ x, kids T x = [] ∨ x < T.length := fun x => by
    by_cases h : x < T.length
    · exact .inr h
    · exact .inl (by unfold kids; rw [List.getElem?_eq_none (by omega)])
  constructor
  · omega
  · intro x c hc
    rw [kids'] at hc
    have old : c ∈ kids T x → x < c ∧ c < T'.length ∧ par T' c = some x ∧ kindOf T' c ≠ sAttr ∧ kindOf T' c ≠ sNs ∧ kindOf T' c ≠ sRoot := fun hc => by
      obtain ⟨a1, a2, a3, a4⟩ := W.kid x c hc
      exact ⟨a1, by omega, by rw [pl c a2]; exact a3, by rw [kl c a2]; exact a4⟩
    split at hc
    · rename_i h
      rcases List.mem_append.mp hc with hc | hc
      · exact old hc
      · rw [List.mem_singleton.mp hc, h.1, pn, kn]
        exact ⟨hi, by omega, rfl, h.2.1, h.2.2, hk⟩
    · exact old hc
  · intro x c hc
    rw [atts'] at hc
    have old : c ∈ atts T x → x < c ∧ c < T'.length ∧ par T' c = some x ∧ kindOf T' c = sAttr := fun hc => by
      obtain ⟨a1, a2, a3, a4⟩ := W.att x c hc
      exact ⟨a1, by omega, by rw [pl c a2]; exact a3, by rw [kl c a2]; exact a4⟩
    split at hc
    · rename_i h
      rcases List.mem_append.mp hc with hc | hc
      · exact old hc
      · rw [List.mem_singleton.mp hc, h.1, pn, kn]
        exact ⟨hi, by omega, rfl, h.2⟩
    · exact old hc
  · intro x c hc
    rw [nsps'] at hc
    have old : c ∈ nsps T x → x < c ∧ c < T'.length ∧ par T' c = some x ∧ kindOf T' c = sNs := fun hc => by
      obtain ⟨a1, a2, a3, a4⟩ := W.nsp x c hc
      exact ⟨a1, by omega, by rw [pl c a2]; exact a3, by rw [kl c a2]; exact a4⟩
    split at hc
    · rename_i h
      rcases List.mem_append.mp hc with hc | hc
      · exact old hc
      · rw [List.mem_singleton.mp hc, h.1, pn, kn]
        exact ⟨hi, by omega, rfl, h.2⟩
    · exact old hc
  · intro x
    rw [kids']
    split
    · exact List.nodup_append.mpr ⟨W.kidN x, by simp, fun a ha b hb e => by
        have := (W.kid x a ha).2.1
        rw [List.mem_singleton.mp hb] at e; omega⟩
    · exact W.kidN x
  · intro x
    rw [atts']
    split
    · exact List.nodup_append.mpr ⟨W.attN x, by simp, fun a ha b hb e => by
        have := (W.att x a ha).2.1
        rw [List.mem_singleton.mp hb] at e; omega⟩
    · exact W.attN x
  · intro x
    rw [nsps']
    split
    · exact List.nodup_append.mpr ⟨W.nspN x, by simp, fun a ha b hb e => by
        have := (W.nsp x a ha).2.1
        rw [List.mem_singleton.mp hb] at e; omega⟩
    · exact W.nspN x
  · intro c p hp
    by_cases hc : c = T.length
    · subst hc
      rw [pn] at hp
      cases hp
      rw [kn, kl i hi]
      refine ⟨hi, hpar.imp id And.left, ?_⟩
      rw [atts', nsps', kids']
      by_cases h1 : kd = sAttr
      · simp [h1]
      · by_cases h2 : kd = sNs
        · have : ¬ sNs = sAttr := by decide
          simp [h2, this]
        · simp [h1, h2]
    · rw [par', if_neg hc] at hp
      have hcl := lt_of_par hp
      obtain ⟨a1, a2, a3⟩ := W.up c p hp
      rw [kl c hcl, kl p (by omega)]
      refine ⟨a1, a2, ?_⟩
      rw [atts', nsps', kids']
      split at a3
      · rename_i h; rw [if_pos h]; split
        · exact List.mem_append_left _ a3
        · exact a3
      · rename_i h; rw [if_neg h]
        split at a3
        · rename_i h; rw [if_pos h]; split
          · exact List.mem_append_left _ a3
          · exact a3
        · rename_i h; rw [if_neg h]; split
          · exact List.mem_append_left _ a3
          · exact a3
  · intro c hc
    by_cases h : c = T.length
    · subst h
      rw [pn, kn]
      exact ⟨fun e => (nomatch e), fun e => absurd e hk⟩
    · rw [pl c (by omega), kl c (by omega)]
      exact W.root c (by omega)
  · intro x h1 h2
    rw [kids']
    rcases nk x with h | h
    · split
      · rename_i q; exact absurd q.1 (fun e => by
          subst e
          rw [kl x hi] at h1 h2
          rcases hpar with h | h
          · exact h1 h
          · exact h2 h.1)
      · exact h
    · rw [kl x h] at h1 h2
      rw [if_neg (fun q => by
        rw [q.1] at h1 h2
        rcases hpar with h | h
        · exact h1 h
        · exact h2 h.1)]
      exact W.holds x h1 h2
  · intro x h1
    have hx : x < T.length → ¬ x = i ∨ (kd ≠ sAttr ∧ kd ≠ sNs) := fun h => by
      rw [kl x h] at h1
      by_cases e : x = i
      · subst e
        rcases hpar with h | h
        · exact absurd h h1
        · exact .inr h.2
      · exact .inl e
    by_cases hl : x < T.length
    · have o := W.holds2 x (by rw [kl x hl] at h1; exact h1)
      rw [atts', nsps']
      rcases hx hl with h | h
      · rw [if_neg (fun q => h q.1), if_neg (fun q => h q.1)]; exact o
      · rw [if_neg (fun q => h.1 q.2), if_neg (fun q => h.2 q.2)]; exact o
    · have : ¬ x = i := by omega
      rw [atts', nsps', if_neg (fun q => this q.1), if_neg (fun q => this q.1)]
      refine ⟨?_, ?_⟩
      · unfold atts; rw [List.getElem?_eq_none (by omega)]
      · unfold nsps; rw [List.getElem?_eq_none (by omega)]
theorem wf_nil : WF [] := by
  constructor <;> simp [kids, atts, nsps, par, kindOf]
theorem WF.same {T T' : List NRow} (W : WF T) (hlen : T'.length = T.length) (par' : ∀ x, par T' x = par T x) (kind' : ∀ x, kindOf T' x = kindOf T x) (kids' : ∀ x, kids T' x = kids T x) (atts' : ∀ x, atts T' x = atts T x) (nsps' : ∀ x, nsps T' x = nsps T x) : WF T' := by
  constructor
  · rw [hlen]; exact W.small
  · intro i c; rw [kids', hlen, par', kind']; exact W.kid i c
  · intro i c; rw [atts', hlen, par', kind']; exact W.att i c
  · intro i c; rw [nsps', hlen, par', kind']; exact W.nsp i c
  · intro i; rw [kids']; exact W.kidN i
  · intro i; rw [atts']; exact W.attN i
  · intro i; rw [nsps']; exact W.nspN i
  · intro c i; rw [par', kind', kind', atts', nsps', kids']; exact W.up c i
  · intro c; rw [hlen, par', kind']; exact W.root c
  · intro i; rw [kind', kids']; exact W.holds i
  · intro i; rw [kind', atts', nsps']; exact W.holds2 i
theorem get_app {T : List NRow} {r : NRow} (x : Nat) : (T ++ [r])[x]? = if x = T.length then some r else T[x]? := by
  by_cases h : x < T.length
  · rw [List.getElem?_append_left h, if_neg (by omega)]
  · by_cases e : x = T.length
    · subst e; simp
    · rw [if_neg e, List.getElem?_eq_none (by simp; omega), List.getElem?_eq_none (by omega)]
theorem get_set {T : List NRow} {r : NRow} {i : Nat} (hi : i < T.length) (x : Nat) : (T.set i r)[x]? = if x = i then some r else T[x]? := by
  rw [List.getElem?_set]
  by_cases h : x = i
  · subst h; rw [if_pos rfl, if_pos hi, if_pos rfl]
  · rw [if_neg (fun e => h e.symm), if_neg h]
theorem out_row {T : List NRow} {x : Nat} (h : ¬ x < T.length) : T[x]? = none := List.getElem?_eq_none (by omega)
theorem wf_root {T : List NRow} (W : WF T) (hn : T.length < 59) {r : NRow} (hk : r.kind = sRoot) (hp : r.parent = none) (hc : r.children = []) (ha : r.attrs = []) (hs : r.nss = []) : WF (T ++ [r]) ∧ ∀ x, x < T.length → kindOf (T ++ [r]) x = kindOf T x ∧ par (T ++ [r]) x = par T x := by
  have o : ∀ x, (T ++ [r])[x]? = if x = T.length then some r else T[x]? := fun x => get_app x
  have z : T[T.length]? = none := out_row (by omega)
  have par' : ∀ x, par (T ++ [r]) x = par T x := fun x => by
    unfold par; rw [o]
    by_cases e : x = T.length
    · subst e; rw [if_pos rfl, z]; exact hp
    · rw [if_neg e]
  have kids' : ∀ x, kids (T ++ [r]) x = kids T x := fun x => by
    unfold kids; rw [o]
    by_cases e : x = T.length
    · subst e; rw [if_pos rfl, z]; exact hc
    · rw [if_neg e]
  have atts' : ∀ x, atts (T ++ [r]) x = atts T x := fun x => by
    unfold atts; rw [o]
    by_cases e : x = T.length
    · subst e; rw [if_pos rfl, z]; exact ha
    · rw [if_neg e]
  have nsps' : ∀ x, nsps (T ++ [r]) x = nsps T x := fun x => by
    unfold nsps; rw [o]
    by_cases e : x = T.length
    · subst e; rw [if_pos rfl, z]; exact hs
    · rw [if_neg e]
  have kind' : ∀ x, x < T.length → kindOf (T ++ [r]) x = kindOf T x := fun x h => by
    unfold kindOf; rw [o, if_neg (by omega)]
  have kindn : kindOf (T ++ [r]) T.length = sRoot := by unfold kindOf; rw [o, if_pos rfl]; exact hk
  refine ⟨?_, fun x hx => ⟨kind' x hx, par' x⟩⟩
  have hlen : (T ++ [r]).length = T.length + 1 := by simp
  constructor
  · omega
  · intro i c hc; rw [kids'] at hc
    obtain ⟨a1, a2, a3, a4⟩ := W.kid i c hc
    exact ⟨a1, by omega, by rw [par']; exact a3, by rw [kind' c a2]; exact a4⟩
  · intro i c hc; rw [atts'] at hc
    obtain ⟨a1, a2, a3, a4⟩ := W.att i c hc
    exact ⟨a1, by omega, by rw [par']; exact a3, by rw [kind' c a2]; exact a4⟩
  · intro i c hc; rw [nsps'] at hc
    obtain ⟨a1, a2, a3, a4⟩ := W.nsp i c hc
    exact ⟨a1, by omega, by rw [par']; exact a3, by rw [kind' c a2]; exact a4⟩
  · intro i; rw [kids']; exact W.kidN i
  · intro i; rw [atts']; exact W.attN i
  · intro i; rw [nsps']; exact W.nspN i
  · intro c i hp; rw [par'] at hp
    have h1 := lt_of_par hp
    have h2 := (W.up c i hp).1
    rw [kind' c h1, kind' i (by omega), atts', nsps', kids']; exact W.up c i hp
  · intro c hc
    by_cases h : c = T.length
    · subst h
      rw [par', kindn]
      refine ⟨fun _ => rfl, fun _ => ?_⟩
      unfold par; rw [z]
    · rw [par', kind' c (by omega)]; exact W.root c (by omega)
  · intro i h1 h2
    rw [kids']
    by_cases h : i < T.length
    · rw [kind' i h] at h1 h2; exact W.holds i h1 h2
    · unfold kids; rw [out_row h]
  · intro i h1
    rw [atts', nsps']
    by_cases h : i < T.length
    · rw [kind' i h] at h1; exact W.holds2 i h1
    · unfold atts nsps; rw [out_row h]; exact ⟨rfl, rfl⟩
theorem row_at {T : List NRow} {i : Nat} (h : i < T.length) : ∃ r, T[i]? = some r := ⟨_, List.getElem?_eq_getElem h⟩
theorem wf_hang {T : List NRow} (W : WF T) (hn : T.length < 59) {i : Nat} {ri ri' r : NRow} (hi : T[i]? = some ri) (hp : r.parent = some i) (hc : r.children = []) (ha : r.attrs = []) (hs : r.nss = [])
    (hk : r.kind ≠ sRoot) (hpar : ri.kind = sElem ∨ (ri.kind = sRoot ∧ r.kind ≠ sAttr ∧ r.kind ≠ sNs)) (k' : ri'.kind = ri.kind) (p' : ri'.parent = ri.parent)
    (c' : ri'.children = if r.kind ≠ sAttr ∧ r.kind ≠ sNs then ri.children ++ [T.length] else ri.children) (a' : ri'.attrs = if r.kind = sAttr then ri.attrs ++ [T.length] else ri.attrs)
    (s' : ri'.nss = if r.kind = sNs then ri.nss ++ [T.length] else ri.nss) :
    WF ((T ++ [r]).set i ri') ∧ (∀ x, x < T.length → kindOf ((T ++ [r]).set i ri') x = kindOf T x ∧ par ((T ++ [r]).set i ri') x = par T x) ∧ kindOf ((T ++ [r]).set i ri') T.length = r.kind := by
  have hil := (List.getElem?_eq_some_iff.mp hi).1
  have o : ∀ x, ((T ++ [r]).set i ri')[x]? = if x = i then some ri' else if x = T.length then some r else T[x]? := fun x => by rw [get_set (by simp; omega), get_app]
  have z : T[T.length]? = none := out_row (by omega)
  have par' : ∀ x, par ((T ++ [r]).set i ri') x = if x = T.length then some i else par T x := fun x => by
    unfold par; rw [o]
    by_cases h1 : x = i
    · subst h1; rw [if_pos rfl, if_neg (by omega), hi]; exact p'
    · rw [if_neg h1]
      by_cases h2 : x = T.length
      · rw [if_pos h2, if_pos h2]; exact hp
      · rw [if_neg h2, if_neg h2]
  have kind' : ∀ x, kindOf ((T ++ [r]).set i ri') x = if x = T.length then r.kind else kindOf T x := fun x => by
    unfold kindOf; rw [o]
    by_cases h1 : x = i
    · subst h1; rw [if_pos rfl, if_neg (by omega), hi]; exact k'
    · rw [if_neg h1]
      by_cases h2 : x = T.length
      · rw [if_pos h2, if_pos h2]
      · rw [if_neg h2, if_neg h2]
  refine ⟨WF.grow W hn (by simp) hil r.kind par' kind' ?_ ?_ ?_ hk (by rw [kind_of hi]; exact hpar), fun x hx => ⟨by rw [kind', if_neg (by omega)], by rw [par', if_neg (by omega)]⟩, by rw [kind', if_pos rfl]⟩
  · intro x
    by_cases h1 : x = i
    · subst h1
      rw [kids_of (r := ri') (by rw [o, if_pos rfl]), kids_of hi, c']; simp
    · rw [if_neg (fun q => h1 q.1)]
      unfold kids; rw [o, if_neg h1]
      by_cases h2 : x = T.length
      · subst h2; rw [if_pos rfl, z]; exact hc
      · rw [if_neg h2]
  · intro x
    by_cases h1 : x = i
    · subst h1
      rw [atts_of (r := ri') (by rw [o, if_pos rfl]), atts_of hi, a']; simp
    · rw [if_neg (fun q => h1 q.1)]
      unfold atts; rw [o, if_neg h1]
      by_cases h2 : x = T.length
      · subst h2; rw [if_pos rfl, z]; exact ha
      · rw [if_neg h2]
  · intro x
    by_cases h1 : x = i
    · subst h1
      rw [nsps_of (r := ri') (by rw [o, if_pos rfl]), nsps_of hi, s']; simp
    · rw [if_neg (fun q => h1 q.1)]
      unfold nsps; rw [o, if_neg h1]
      by_cases h2 : x = T.length
      · subst h2; rw [if_pos rfl, z]; exact hs
      · rw [if_neg h2]
theorem wf_turn {T : List NRow} (W : WF T) {j : Nat} {rj : NRow} (hj : T[j]? = some rj) (nm vl : Str) : WF (T.set j { rj with name := nm, value := vl }) ∧ ∀ x, kindOf (T.set j { rj with name := nm, value := vl }) x = kindOf T x ∧ par (T.set j { rj with name := nm, value := vl }) x = par T x := by
  have hjl := (List.getElem?_eq_some_iff.mp hj).1
  have o : ∀ x, (T.set j { rj with name := nm, value := vl })[x]? = if x = j then some { rj with name := nm, value := vl } else T[x]? := fun x => get_set hjl x
  have k2 : ∀ x, kindOf (T.set j { rj with name := nm, value := vl }) x = kindOf T x := fun x => by
    unfold kindOf; rw [o]
    by_cases e : x = j
    · subst e; rw [if_pos rfl, hj]
    · rw [if_neg e]
  have p2 : ∀ x, par (T.set j { rj with name := nm, value := vl }) x = par T x := fun x => by
    unfold par; rw [o]
    by_cases e : x = j
    · subst e; rw [if_pos rfl, hj]
    · rw [if_neg e]
  have c2 : ∀ x, kids (T.set j { rj with name := nm, value := vl }) x = kids T x := fun x => by
    unfold kids; rw [o]
    by_cases e : x = j
    · subst e; rw [if_pos rfl, hj]
    · rw [if_neg e]
  have a2 : ∀ x, atts (T.set j { rj with name := nm, value := vl }) x = atts T x := fun x => by
    unfold atts; rw [o]
    by_cases e : x = j
    · subst e; rw [if_pos rfl, hj]
    · rw [if_neg e]
  have s2 : ∀ x, nsps (T.set j { rj with name := nm, value := vl }) x = nsps T x := fun x => by
    unfold nsps; rw [o]
    by_cases e : x = j
    · subst e; rw [if_pos rfl, hj]
    · rw [if_neg e]
  exact ⟨WF.same W (by simp) p2 k2 c2 a2 s2, fun x => ⟨k2 x, p2 x⟩⟩
end Mine
namespace Mine
noncomputable def plainL (T : List NRow) (r : Nat) : List Nat := (walked T r).filter fun x => !beside T x
theorem doc_bound {T : List NRow} (W : WF T) {r x : Nat} (hr : r < T.length) (hx : x ∈ doc T r) : x < T.length := by
  rcases List.mem_cons.mp hx with rfl | hx
  · exact hr
  · exact (desc_mem W r x hx).2
theorem doc_iff {T : List NRow} (W : WF T) {r : Nat} (hr : r < T.length) (hp : par T r = none) (hb : beside T r = false) (x : Nat) : x ∈ doc T r ↔ x ∈ walked T r ∧ beside T x = false := by
  rw [walked_top W hr hp]
  constructor
  · intro h
    exact ⟨⟨doc_bound W hr h, doc_top W hp h⟩, doc_plain W hb h⟩
  · rintro ⟨⟨_, h2⟩, h3⟩
    have := doc_split W x h3
    rw [h2] at this
    show x ∈ r :: desc T r
    rw [this]
    simp
theorem plain_mem {T : List NRow} (W : WF T) {r : Nat} (hr : r < T.length) (hp : par T r = none) (hb : beside T r = false) {x : Nat} (h : x ∈ plainL T r) : x ∈ doc T r := by
  obtain ⟨h1, h2⟩ := List.mem_filter.mp h
  exact (doc_iff W hr hp hb x).mpr ⟨h1, by simpa using h2⟩
theorem plain_perm {T : List NRow} (W : WF T) {r : Nat} (hr : r < T.length) (hp : par T r = none) (hb : beside T r = false) : (plainL T r).Perm (doc T r) :=
  perm_of_mem ((walked_nodup W r).filter _) (doc_nodup W r) fun x => by
    rw [doc_iff W hr hp hb, plainL, List.mem_filter]; simp
theorem filter_iff {l : List Nat} {p q : Nat → Prop} [DecidablePred p] [DecidablePred q] (h : ∀ x ∈ l, p x ↔ q x) : (l.filter fun x => decide (p x)) = l.filter fun x => decide (q x) :=
  List.filter_congr fun x hx => decide_eq_decide.mpr (h x hx)
theorem mem_stepL {T : List NRow} {r : Nat} {ns : List Nat} {nm : Str} {x : Nat} : x ∈ stepL T r ns nm ↔ x ∈ walked T r ∧ ∃ n ∈ ns, x ∈ axisL T n nm := by
  unfold stepL; rw [List.mem_filter]; simp
theorem stepsL_two (T : List NRow) (r : Nat) (ns : List Nat) (a b : Str) : stepsL T r ns [a, b] = stepL T r (stepL T r ns a) b := rfl
theorem stepsL_three (T : List NRow) (r : Nat) (ns : List Nat) (a b c : Str) : stepsL T r ns [a, b, c] = stepL T r (stepL T r (stepL T r ns a) b) c := rfl
theorem steps_desc {T : List NRow} (W : WF T) {r n : Nat} (hr : r < T.length) (hp : par T r = none) (hn : n ∈ walked T r) :
    stepsL T r [n] [Str.ofString "child", Str.ofString "descendant-or-self"] = (walked T r).filter fun x => decide (x ∈ axisL T n (Str.ofString "descendant")) := by
  rw [stepsL_two]
  refine filter_iff fun x hx => ?_
  rw [axisL_descendant, desc_eq W, List.mem_flatMap]
  constructor
  · rintro ⟨m, hm, h⟩
    obtain ⟨_, k, hk, h2⟩ := mem_stepL.mp hm
    rw [List.mem_singleton.mp hk, axisL_child] at h2
    rw [axisL_descendant_or_self] at h
    exact ⟨m, h2, h⟩
  · rintro ⟨m, hm, h⟩
    refine ⟨m, mem_stepL.mpr ⟨axis_walked W hr hp hn (Str.ofString "child") (by rw [axisL_child]; exact hm), n, by simp, by rw [axisL_child]; exact hm⟩, ?_⟩
    rw [axisL_descendant_or_self]; exact h
theorem steps_anc {T : List NRow} (W : WF T) {r n : Nat} (hr : r < T.length) (hp : par T r = none) (hn : n ∈ walked T r) :
    stepsL T r [n] [Str.ofString "parent", Str.ofString "ancestor-or-self"] = (walked T r).filter fun x => decide (x ∈ axisL T n (Str.ofString "ancestor")) := by
  rw [stepsL_two]
  refine filter_iff fun x hx => ?_
  rw [axisL_ancestor]
  cases hq : par T n with
  | none =>
    rw [anc_none hq]
    constructor
    · rintro ⟨m, hm, h⟩
      obtain ⟨_, k, hk, h2⟩ := mem_stepL.mp hm
      rw [List.mem_singleton.mp hk, axisL_par_none hq] at h2
      cases h2
    · intro h; cases h
  | some q =>
    rw [anc_some W hq]
    constructor
    · rintro ⟨m, hm, h⟩
      obtain ⟨_, k, hk, h2⟩ := mem_stepL.mp hm
      rw [List.mem_singleton.mp hk, axisL_par_some hq, List.mem_singleton] at h2
      rw [h2, axisL_ancestor_or_self] at h
      exact h
    · intro h
      refine ⟨q, mem_stepL.mpr ⟨axis_walked W hr hp hn (Str.ofString "parent") (by rw [axisL_par_some hq]; exact .head _), n, by simp, by rw [axisL_par_some hq]; exact .head _⟩, ?_⟩
      rw [axisL_ancestor_or_self]; exact h
theorem steps_foll {T : List NRow} (W : WF T) {r n : Nat} (hr : r < T.length) (hp : par T r = none) (hn : n ∈ walked T r) (hb : beside T n = false) :
    stepsL T r [n] [Str.ofString "ancestor-or-self", Str.ofString "following-sibling", Str.ofString "descendant-or-self"] = (walked T r).filter fun x => decide (x ∈ axisL T n (Str.ofString "following")) := by
  rw [stepsL_three]
  refine filter_iff fun x hx => ?_
  rw [axisL_following, show foll T n = follFrom T n by unfold foll; rw [hb]; simp, follFrom, List.mem_flatMap]
  constructor
  · rintro ⟨m, hm, h⟩
    obtain ⟨_, k, hk, h2⟩ := mem_stepL.mp hm
    obtain ⟨_, j, hj, h3⟩ := mem_stepL.mp hk
    rw [List.mem_singleton.mp hj, axisL_ancestor_or_self] at h3
    rw [axisL_following_sibling] at h2
    rw [axisL_descendant_or_self] at h
    exact ⟨k, h3, List.mem_flatMap.mpr ⟨m, h2, h⟩⟩
  · rintro ⟨k, hk, h⟩
    obtain ⟨m, hm, h⟩ := List.mem_flatMap.mp h
    have e1 : k ∈ axisL T n (Str.ofString "ancestor-or-self") := by rw [axisL_ancestor_or_self]; exact hk
    have w1 := axis_walked W hr hp hn _ e1
    have e2 : m ∈ axisL T k (Str.ofString "following-sibling") := by rw [axisL_following_sibling]; exact hm
    have w2 := axis_walked W hr hp w1 _ e2
    refine ⟨m, mem_stepL.mpr ⟨w2, k, mem_stepL.mpr ⟨w1, n, by simp, e1⟩, e2⟩, ?_⟩
    rw [axisL_descendant_or_self]; exact h
theorem steps_prec {T : List NRow} (W : WF T) {r n : Nat} (hr : r < T.length) (hp : par T r = none) (hn : n ∈ walked T r) (hb : beside T n = false) :
    stepsL T r [n] [Str.ofString "ancestor-or-self", Str.ofString "preceding-sibling", Str.ofString "descendant-or-self"] = (walked T r).filter fun x => decide (x ∈ axisL T n (Str.ofString "preceding")) := by
  rw [stepsL_three]
  refine filter_iff fun x hx => ?_
  rw [axisL_preceding, show prec T n = precFrom T n by unfold prec; rw [hb]; simp, precFrom, List.mem_flatMap]
  constructor
  · rintro ⟨m, hm, h⟩
    obtain ⟨_, k, hk, h2⟩ := mem_stepL.mp hm
    obtain ⟨_, j, hj, h3⟩ := mem_stepL.mp hk
    rw [List.mem_singleton.mp hj, axisL_ancestor_or_self] at h3
    rw [axisL_preceding_sibling] at h2
    rw [axisL_descendant_or_self] at h
    exact ⟨k, h3, List.mem_flatMap.mpr ⟨m, h2, by rw [wd_one]; exact List.mem_reverse.mpr h⟩⟩
  · rintro ⟨k, hk, h⟩
    obtain ⟨m, hm, h⟩ := List.mem_flatMap.mp h
    have e1 : k ∈ axisL T n (Str.ofString "ancestor-or-self") := by rw [axisL_ancestor_or_self]; exact hk
    have w1 := axis_walked W hr hp hn _ e1
    have e2 : m ∈ axisL T k (Str.ofString "preceding-sibling") := by rw [axisL_preceding_sibling]; exact hm
    have w2 := axis_walked W hr hp w1 _ e2
    refine ⟨m, mem_stepL.mpr ⟨w2, k, mem_stepL.mpr ⟨w1, n, by simp, e1⟩, e2⟩, ?_⟩
    rw [axisL_descendant_or_self]
    rw [wd_one] at h; exact List.mem_reverse.mp h
theorem beside_bare {T : List NRow} (W : WF T) {n : Nat} (hn : n < T.length) (hb : beside T n = true) :
    axisL T n (Str.ofString "child") = [] ∧ axisL T n (Str.ofString "descendant") = [] ∧ axisL T n (Str.ofString "following-sibling") = [] ∧ ∃ q, par T n = some q ∧ axisL T n (Str.ofString "parent") = [q] := by
  obtain ⟨q, hq⟩ := beside_par W hn hb
  have hk : kids T n = [] := by
    rcases beside_iff.mp hb with h | h
    · exact W.holds n (by rw [h]; decide) (by rw [h]; decide)
    · exact W.holds n (by rw [h]; decide) (by rw [h]; decide)
  refine ⟨by rw [axisL_child, hk], by rw [axisL_descendant, desc_eq W, hk]; rfl, ?_, q, hq, axisL_par_some hq⟩
  rw [axisL_following_sibling]
  unfold sibB; rw [hq]; simp [hb]
end Mine
namespace Mine
section
variable {prog : Program} {w : World} {A : Around} {E : Value → Shared → Prop} {s : Shared} {env : Env} {h₀ : Heap} {x : Str} {body : List Stmt} {Q : Flow → Shared → Prop} {m₀ : Str → Option Value}
theorem iter_range {L r : Addr} {a b : Int} {t₀ u₀ v₀ : Tok} {n : Nat} (hL : env.locals = L) {σ : Type} (Led : σ → List (Addr × Obj)) (ps : σ → List (Str × Value)) (st : List Str) (J : Nat → σ → Prop) (c₀ : σ) (fix : List (Addr × Obj)) {news : List (Addr × Obj)}
    (hh : A.handled = none) (hr : IsRange s.heap r a b 1 t₀ u₀ v₀) (hsmall : Builtin.Range.small a b 1 = true) (hn : Builtin.Range.rangeSize a b 1 = ((n : Nat) : Int)) (F : Fr h₀ L s.heap m₀) (N : News h₀ L s.heap news) (hin : ∀ p ∈ Led c₀ ++ fix, p ∈ news)
    (hoff : ∀ q ∈ Led c₀, ∀ p ∈ fix, @Ne Nat p.1 q.1)
    (hps : ∀ p ∈ ps c₀, m₀ p.1 = some p.2) (hj : J 0 c₀)
    (turn : ∀ (i : Nat) t c u h tk own, i < n → J i c → Fr h₀ L h (fun y => if y = x then some (.int (a + (i : Nat)) t) else setv (ps c) (x :: st) u m₀ y) → News h₀ L h (Led c ++ (fix ++ own)) → (∀ q ∈ Led c, ∀ p ∈ fix ++ own, @Ne Nat p.1 q.1) →
      wpAny (model prog w) A (execs body env) (ForPost h₀ L Led ps st m₀ x (J (i + 1)) (fix ++ own) { s with heap := h, toks := tk } Q) E { s with heap := h, toks := tk })
    (done : ∀ c u h tk, J n c → Fr h₀ L h (setv (ps c) (x :: st) u m₀) → News h₀ L h (Led c ++ fix) → (∀ q ∈ Led c, ∀ p ∈ fix, @Ne Nat p.1 q.1) → Q .next { s with heap := h, toks := tk }) :
    wpAny (model prog w) A (pyIter (.ref r)) (fun it s₂ => LoopAtV prog w A h₀ env x body Q E it s₂) E s := by
  subst hL
  refine wpAny_pyIter_range hr hsmall ?_
  have W : Walks prog w A s.heap.objs.size [s.heap.objs.size] [s.heap.objs.size] n (fun i v => i < n ∧ ∃ t, v = .int (a + i * 1) t)
      (fun i h => IsRangeIter h s.heap.objs.size (a + (i : Nat) * 1) ((n : Int) - (i : Nat)) 1) := (Walks.range hh _ a 1 n).bound
  refine iter_walks W Led ps st J c₀ fix ⟨_, Heap.get?_push_size _ rfl⟩ ?_ (next_is_new F) (by show IsRangeIter _ _ _ _ _; rw [hn]; simpa using Heap.get?_push_size _ rfl) (F.push _) (fun p hp => ⟨Heap.get?_push_of_some _ (N p hp).1, (N p hp).2⟩) hin
    (fun p hp => Nat.ne_of_lt (Heap.lt_size (N p (hin p hp)).1)) hoff (fun k c hJc p hp hI hm => hI (List.mem_singleton.mp hm)) hps hj (fun i h hSt => ⟨_, hSt⟩) (fun i v c u h tk own hP hi hJ F N hs => ?_) done
  · intro hm
    exact absurd F.ns.lt ((List.mem_singleton.mp hm) ▸ Nat.lt_irrefl _)
  · obtain ⟨_, t, rfl⟩ := hP
    have e : a + (i : Int) * 1 = a + (i : Nat) := by omega
    rw [e] at F
    exact turn i t c u h tk own hi hJ F N hs
end
theorem hid_apart {g h : Heap} {l rest : List (Addr × Obj)} (H : Hid g h l) (kp : ∀ p ∈ rest, g.get? p.1 = some p.2) : ∀ p ∈ l, ∀ q ∈ rest, @Ne Nat q.1 p.1 := fun p hp q hq e => by
  have a := (H p hp).2
  have b := kp q hq
  have e' : q.1 = p.1 := e
  rw [e', a] at b; cases b
theorem news_two {g h : Heap} {L : Addr} {l rest : List (Addr × Obj)} (H : News g L h l) (H' : News g L h rest) : News g L h (l ++ rest) := fun p hp => (List.mem_append.mp hp).elim (H p) (H' p)
inductive TLH (C : Addr) (P : Params) (t : Addr) (l : List (Addr × Obj)) : Prop
  | ik (dt rl : Addr) (tk ep : Nat) (l' : List (Addr × Obj)) (e : l = (t, instObj C dt) :: (dt, dictOf [⟨PyData.keyHash P (Str.ofString "rows"), .str (Str.ofString "rows") tk, .ref rl⟩] ep) :: l') : TLH C P t l
theorem TreeL.head {C R : Addr} {P : Params} {t : Addr} {T : List NRow} {l : List (Addr × Obj)} (H : TreeL C R P t T l) : TLH C P t l := by
  obtain ⟨M, tag, rfl, _, _, rfl⟩ := H
  exact ⟨M.dt, M.rl, M.tk, M.ep1, _, rfl⟩
theorem mem_two {α : Type} {a b x : α} (h : x ∈ [a, b]) : x = a ∨ x = b := by simpa using h
theorem mem_three {α : Type} {a b c x : α} (h : x ∈ [a, b, c]) : x = a ∨ x = b ∨ x = c := by simpa using h
theorem nv_mem {vs : List Value} {ns : List Nat} (h : NV vs ns) {v : Value} (hv : v ∈ vs) : ∃ n t, n ∈ ns ∧ v = .int n t := by
  obtain ⟨i, hi⟩ := List.getElem?_of_mem hv
  obtain ⟨n, t, hn, e⟩ := h.get hi
  exact ⟨n, t, List.mem_of_getElem? hn, e⟩
end Mine
namespace Mine
open PyProof.Rows.LCg (lst NsObj ns_obj lst_snoc)
section
variable {prog : Program} {w : World} {A : Around} {E : Value → Shared → Prop} {s : Shared} {env : Env} {h₀ : Heap} {L : Addr} {m : Str → Option Value} {elt : Expr} {x : Str} {ifs : List Expr} {scope : Scope} {cl : List (Str × Addr)}
theorem newEnv_cells {scope : Scope} {globals : Addr} {closure : List (Str × Addr)} {qual : Str} {builtins : Addr} {env : Env} {Q : Env → Shared → Prop}
    (h : Q (newEnv scope s.heap.objs.size globals (cellsFrom (s.heap.objs.size + 1) scope.names closure) qual none .none (some env) builtins) { s with heap := pushCells (s.heap.push { cls := .type "dict", data := .dict #[] }) scope.names }) :
    wpAny (model prog w) A (newFunctionEnv scope globals closure [] qual none .none (some env) builtins) Q E s := by
  simp only [newFunctionEnv, Option.isSome_some, if_true]
  refine wpAny_bind (wpAny_alloc ?_)
  refine wpAny_bind (wpAny_layCells _ (fun name kind cells => by cases hkc : kind == NameKind.cell <;> simp [hkc]) _ _ _ _ ?_)
  rw [show ({ s with heap := s.heap.push { cls := .type "dict", data := .dict #[] } } : Shared).heap.objs.size = s.heap.objs.size + 1 from Heap.size_push ..]
  refine wpAny_bind ?_
  rw [List.forIn_nil]
  exact wpAny_pure (wpAny_pure h)
noncomputable def OneCell (names : List (Str × NameKind)) (x : Str) : Prop := (∀ (n : Nat) (acc : List (Str × Addr)), cellsFrom n names acc = (x, n) :: acc) ∧ ∀ h, pushCells h names = h.push { cls := .type "cell", data := .cell none }
theorem kindOf_cell {names : List (Str × NameKind)} {env : Env} (h : names.lookup x = some .cell) :
    (names.map fun (n, k) => if (k == NameKind.free && env.scope.kind == .function && env.kindOf n == some .cell) then (n, NameKind.cell) else (n, k)).lookup x = some .cell := by
  induction names with
  | nil => simp at h
  | cons p r ih =>
    obtain ⟨n, k⟩ := p
    show List.lookup x ((if (k == NameKind.free && env.scope.kind == .function && env.kindOf n == some .cell) = true then (n, NameKind.cell) else (n, k)) :: _) = _
    cases hx : x == n with
    | true =>
      simp only [List.lookup_cons, hx] at h
      cases h
      simp [List.lookup_cons, hx]
    | false =>
      simp only [List.lookup_cons, hx] at h
      by_cases hc : (k == NameKind.free && env.scope.kind == .function && env.kindOf n == some .cell) = true
      · rw [if_pos hc]; simp only [List.lookup_cons, hx]; exact ih h
      · rw [if_neg hc]; simp only [List.lookup_cons, hx]; exact ih h

inductive CompAtX (prog : Program) (w : World) (A : Around) (h₀ : Heap) (L : Addr) (m : Str → Option Value) (env : Env) (elt : Expr) (x : Str) (ifs : List Expr) (scope : Scope) (cl : List (Str × Addr)) (mf : Addr → Str → Option Value) (Fin : Addr → Shared → Prop) (it : Value) (s₂ : Shared) : Prop
  | ik (I : Addr) (fp : List Addr) (n : Nat) (P : Nat → Value → Prop) (St : Nat → Heap → Prop) (news : List (Addr × Obj)) (J : Nat → List Value → List (Addr × Obj) → Prop)
    (f0 : it = .ref I)
    (f1 : Walks prog w A I fp [I] n P St)
    (f2 : n ≤ sizeLine)
    (f3 : L ∉ fp)
    (f4 : h₀.get? I = none)
    (f5 : (∀ b ∈ fp, b < s₂.heap.objs.size))
    (f6 : (∀ p ∈ news, p.1 ≠ I))
    (f7 : St 0 s₂.heap)
    (f8 : (∀ i h, St i h → ∀ b ∈ fp, ∃ o, h.get? b = some o))
    (f9 : Fr h₀ L s₂.heap m)
    (f10 : News h₀ L s₂.heap news)
    (f11 : J 0 [] news)
    (f12 : (∀ i v ys news₁ h₁ tk₁ own bad C X oX E', i < n → P i v → ys.length ≤ i → J i ys news₁ → (∀ b ∈ fp, h₀.get? b = none → ∀ o, h₁.get? b = some o → (b, o) ∈ own) → (∀ p ∈ own, p.1 ∈ fp ∨ p.1 ∈ bad) → (∀ b ∈ bad, ∃ o, (b, o) ∈ own) → (∀ b ∈ fp, ∃ o, h₁.get? b = some o) → (∀ p ∈ news₁, p.1 ∉ bad) → (X, oX) ∈ own → oX.data = .cell (some v) → Fr h₀ L h₁ m → News h₀ L h₁ (own ++ news₁) → wpAny (model prog w) A (testsOf ifs (compEnvC scope ((x, X) :: cl) C env)) (fun ok s₃ => if ok = true then wpAny (model prog w) A (eval elt (compEnvC scope ((x, X) :: cl) C env)) (fun y s₄ => CStep h₀ L m (fun ys nw => J (i + 1) ys nw) own bad (ys ++ [y]) { s₂ with heap := h₁, toks := tk₁ } s₄) E' s₃ else CStep h₀ L m (fun ys nw => J (i + 1) ys nw) own bad ys { s₂ with heap := h₁, toks := tk₁ } s₃) E' { s₂ with heap := h₁, toks := tk₁ }))
    (f13 : ∀ D h' tk ys news', J n ys news' → ys.length ≤ n → Fr h₀ L h' (mf D) → News h₀ L h' ((D, lst ys) :: news') → (∀ p ∈ news', @Ne Nat p.1 D) → Fin D { s₂ with heap := h', toks := tk }) : CompAtX prog w A h₀ L m env elt x ifs scope cl mf Fin it s₂

inductive CInvX (h₀ : Heap) (L : Addr) (m : Str → Option Value) (n : Nat) (St : Nat → Heap → Prop) (J : Nat → List Value → List (Addr × Obj) → Prop) (I D C X : Addr) (s₂ : Shared) (k : Nat) (s' : Shared) : Prop
  | ik (h' : Heap) (tk : Nat) (i : Nat) (ys : List Value) (m' : Str → Option Value) (news' : List (Addr × Obj))
    (f0 : s' = { s₂ with heap := h', toks := tk }) (f1 : i ≤ n) (f2 : k = n + 1 - i) (f3 : ys.length ≤ i) (f4 : St i h') (f5 : Fr h₀ L h' m) (f6 : h'.Ns C m') (f7 : (∃ oX v₀, h'.get? X = some oX ∧ oX.data = .cell v₀)) (f8 : News h₀ L h' ((D, lst ys) :: news')) (f9 : (∀ p ∈ news', p.1 ≠ I ∧ p.1 ≠ D ∧ p.1 ≠ C ∧ p.1 ≠ X)) (f10 : J i ys news') : CInvX h₀ L m n St J I D C X s₂ k s'
inductive CAftX (h₀ : Heap) (L : Addr) (m : Str → Option Value) (St : Nat → Heap → Prop) (J : Nat → List Value → List (Addr × Obj) → Prop) (I D C X : Addr) (s₂ : Shared) (oC oD oX₃ : Obj) (i : Nat) (zs : List Value) (s₅ : Shared) : Prop
  | ik (h₄ : Heap) (tk₄ : Nat) (news₄ : List (Addr × Obj))
    (f0 : s₅ = { s₂ with heap := h₄, toks := tk₄ }) (f1 : Fr h₀ L h₄ m) (f2 : h₄.get? C = some oC) (f3 : h₄.get? D = some oD) (f4 : h₄.get? X = some oX₃) (f5 : News h₀ L h₄ news₄) (f6 : St (i + 1) h₄) (f7 : (∀ p ∈ news₄, p.1 ≠ I ∧ p.1 ≠ D ∧ p.1 ≠ C ∧ p.1 ≠ X)) (f8 : J (i + 1) zs news₄) : CAftX h₀ L m St J I D C X s₂ oC oD oX₃ i zs s₅
theorem comp_blockX {iter : Expr} {px : Pos} {pos : Pos} {s₂ : Shared} {it : Value} {mf : Addr → Str → Option Value} {Fin : Addr → Shared → Prop} {RR : Value → Addr → Result → Shared → Prop}
    (hcell : OneCell scope.names x) (hkind : scope.kind = .function) (hx : scope.names.lookup x = some .cell)
    (H : CompAtX prog w A h₀ L m env elt x ifs scope cl mf Fin it s₂)
    (hRR : ∀ D C h tk m', Fr h₀ L h m → D ≠ L → h₀.get? D = none → h.Ns C m' → h₀.get? C = none → C ≠ L → C ≠ D →
      (∀ h' tk', Fr h₀ L h' (mf D) → (∀ b o, b ≠ C → b ≠ L → h.get? b = some o → h'.get? b = some o) → Fin D { s₂ with heap := h', toks := tk' }) → RR (.ref D) C (.ok .next) { s₂ with heap := h, toks := tk }) :
    wpAny (model prog w) A (newList []) (fun acc s₃ => wpAny (model prog w) A (newFunctionEnv scope env.globals cl [] env.qual none .none (some env)) (fun cenv s₄ =>
      codeAny (model prog w) A (.compStart (.ListComp elt [⟨.Name x px, iter, ifs, 0⟩] scope pos) 0 it acc { cenv with scope := relabel scope env }) (RR acc cenv.locals) s₄) E s₃) E s₂ := by
  obtain ⟨I, fp, n, P, St, news, J, rfl, W, hsz, hLf, hI₀, hfp, hnI, hst, hlive, F, N, hJ, step, done⟩ := H
  refine wpAny_newObj_type (newEnv_cells ?_)
  rw [hcell.1, hcell.2]
  dsimp only
  generalize hH2 : s₂.heap.push { cls := .type "list", dict := none, data := .seq ([] : List Value).toArray } = H2
  generalize hH3 : H2.push { cls := .type "dict", data := .dict #[] } = H3
  obtain ⟨h₁, hh₁⟩ : ∃ h₁, h₁ = H3.push { cls := .type "cell", data := .cell none } := ⟨_, rfl⟩
  rw [← hh₁]
  have hX : H3.objs.size = H2.objs.size + 1 := by rw [← hH3, Heap.size_push]
  have hns₁ : h₁.Ns H2.objs.size (fun _ => none) := by
    have := Heap.Ns.new H2 (.type "dict")
    rw [hH3] at this
    rw [hh₁]
    exact this.keeps fun b o e => Heap.get?_push_of_some _ e
  have hcel₁ : h₁.get? (H2.objs.size + 1) = some { cls := .type "cell", data := .cell none } := by rw [hh₁, ← hX]; exact Heap.get?_push_size _ rfl
  have hC : H2.objs.size = s₂.heap.objs.size + 1 := by rw [← hH2, Heap.size_push]
  have hDC : s₂.heap.objs.size ≠ H2.objs.size := by rw [hC]; exact Nat.ne_of_lt (Nat.lt_succ_self _)
  have below : ∀ b, b < s₂.heap.objs.size → b ≠ H2.objs.size ∧ b ≠ s₂.heap.objs.size := fun b hb => ⟨by rw [hC]; exact Nat.ne_of_lt (Nat.lt_succ_of_lt hb), Nat.ne_of_lt hb⟩
  have hDf : s₂.heap.objs.size ∉ fp := fun hm => Nat.lt_irrefl _ (hfp _ hm)
  have hCf : H2.objs.size ∉ fp := fun hm => by have := hfp _ hm; rw [hC] at this; exact Nat.lt_irrefl _ (Nat.lt_of_succ_lt this)
  have hIf : I ∈ fp := W.sub I (List.mem_singleton.mpr rfl)
  have hIlt : I < s₂.heap.objs.size := hfp I hIf
  have old : ∀ b o, s₂.heap.get? b = some o → h₁.get? b = some o := fun b o e => by
    rw [hh₁, ← hH3]
    exact Heap.get?_push_of_some _ (Heap.get?_push_of_some _ (hH2 ▸ Heap.get?_push_of_some _ e))
  have hacc : h₁.get? s₂.heap.objs.size = some (lst []) := by
    rw [hh₁, ← hH3]
    exact Heap.get?_push_of_some _ (Heap.get?_push_of_some _ (hH2 ▸ Heap.get?_push_size _ rfl))
  have hst₁ : St 0 h₁ := W.frame _ _ _ hst fun b _ o e => old b o e
  have fresh₀ : ∀ a, s₂.heap.objs.size ≤ a → h₀.get? a = none := fun a ha => by
    cases e : h₀.get? a with
    | none => rfl
    | some o' => exact absurd (Heap.lt_size (F.keep a o' e)) (Nat.not_lt.mpr ha)
  have hD₀ : h₀.get? s₂.heap.objs.size = none := fresh₀ _ (Nat.le_refl _)
  have hC₀ : h₀.get? H2.objs.size = none := fresh₀ _ (by rw [hC]; exact Nat.le_succ _)
  have hLlt : L < s₂.heap.objs.size := F.ns.lt
  have hDL : s₂.heap.objs.size ≠ L := Ne.symm (below L hLlt).2
  have hCL : H2.objs.size ≠ L := Ne.symm (below L hLlt).1
  have hCI : I ≠ H2.objs.size := (below I hIlt).1
  have hDI : I ≠ s₂.heap.objs.size := (below I hIlt).2
  have hIL : L ≠ I := fun e => hLf (e ▸ hIf)
  have hXC : H2.objs.size + 1 ≠ H2.objs.size := Nat.succ_ne_self _
  have hXs : s₂.heap.objs.size < H2.objs.size + 1 := by rw [hC]; omega
  have hXD : H2.objs.size + 1 ≠ s₂.heap.objs.size := Nat.ne_of_gt hXs
  have hXf : H2.objs.size + 1 ∉ fp := fun hm => Nat.lt_irrefl _ (Nat.lt_trans (hfp _ hm) hXs)
  have hX₀ : h₀.get? (H2.objs.size + 1) = none := fresh₀ _ (Nat.le_of_lt hXs)
  have hXL : H2.objs.size + 1 ≠ L := Nat.ne_of_gt (Nat.lt_trans hLlt hXs)
  have hXI : I ≠ H2.objs.size + 1 := Nat.ne_of_lt (Nat.lt_trans hIlt hXs)
  have offX : ∀ p ∈ news, p.1 ≠ H2.objs.size + 1 := fun p hp => Nat.ne_of_lt (Nat.lt_trans (Heap.lt_size (N p hp).1) hXs)
  generalize hDd : s₂.heap.objs.size = D at *
  generalize hCc : H2.objs.size = C at *
  generalize hXx : C + 1 = X at *
  have off₀ : ∀ p ∈ news, p.1 ≠ D ∧ p.1 ≠ C := fun p hp => ⟨(below _ (by rw [← hDd]; exact Heap.lt_size (N p hp).1)).2, (below _ (by rw [← hDd]; exact Heap.lt_size (N p hp).1)).1⟩
  have hCX : C ≠ X := Ne.symm hXC
  have hDX : D ≠ X := Ne.symm hXD
  have loop : ∀ s₃ : Shared, s₃ = { s₂ with heap := h₁ } →
      codeAny (model prog w) A (.compLoop (.ListComp elt [⟨.Name x px, iter, ifs, 0⟩] scope pos) 0 (.ref I) (.ref D) (compEnvC scope ((x, X) :: cl) C env))
        (RR (.ref D) C) s₃ := by
    rintro s₃ rfl
    refine codeAny_compLoop_tests
      (CInvX h₀ L m n St J I D C X s₂) ?_ (n + 1)
      ⟨h₁, _, 0, [], _, news, rfl, Nat.zero_le _, rfl, Nat.le_refl _, hst₁, F.keeps old, hns₁, ⟨_, _, hcel₁, rfl⟩, fun p hp => ?_, fun p hp => ⟨hnI p hp, (off₀ p hp).1, (off₀ p hp).2, offX p hp⟩, hJ⟩
    · rintro k s' ⟨h', tk, i, ys, m', news', rfl, hi, rfl, hyl, hst', F', hn', ⟨oX, v₀, hXo, hXd⟩, N', off', hJ'⟩
      by_cases hlt : i < n
      · refine W.item i _ _ _ hlt hst' fun v h₂ tk₂ hPv hst₂ hk₂ => ?_
        refine wpAny_assign_Name (wpAny_storeName_cell (c := X) hkind (kindOf_cell hx) (by simp [compEnvC]) ⟨oX, hk₂ _ oX (by simpa using Ne.symm hXI) hXo, hXd⟩ fun h₃ hx₃ hs₃ => ?_)
        obtain ⟨oX₃, heX, hdX⟩ := hx₃
        have hst₃ : St (i + 1) h₃ := W.frame _ _ _ hst₂ fun b hb o e => hs₃.extBut b o (fun q => hXf (by have q' : b = X := q; rw [← q']; exact hb)) e
        have hn₃ : h₃.Ns C m' := (hn'.at' fun o e => hk₂ _ o (by simpa using Ne.symm hCI) e).sameBut hs₃ hCX
        obtain ⟨oC, heC, hoC⟩ := ns_obj hn₃
        have F₃ : Fr h₀ L h₃ m := (LCg.fr_but F' hk₂ hIL hI₀).change hs₃ hXL hX₀
        have N₂ : News h₀ L h₂ ((D, lst ys) :: news') := LCg.news_but N' hk₂ fun p hp => by
          rcases List.mem_cons.mp hp with rfl | hp
          · exact Ne.symm hDI
          · exact (off' p hp).1
        have hD₃ : h₃.get? D = some (lst ys) := hs₃.extBut _ _ hDX (N₂ _ List.mem_cons_self).1
        have Nown : News h₀ L h₃ (PyProof.Rows.ownOf h₀ fp h₃) := news_ownOf hLf
        have N₃ : News h₀ L h₃ ((PyProof.Rows.ownOf h₀ fp h₃ ++ [(C, oC), (D, lst ys), (X, oX₃)]) ++ news') := fun p hp => by
          rcases List.mem_append.mp hp with hp | hp
          · rcases List.mem_append.mp hp with hp | hp
            · exact Nown p hp
            · rcases List.mem_cons.mp hp with rfl | hp
              · exact ⟨heC, hCL, hC₀⟩
              · rcases List.mem_cons.mp hp with rfl | hp
                · exact ⟨hD₃, hDL, hD₀⟩
                · rw [List.mem_singleton.mp hp]; exact ⟨heX, hXL, hX₀⟩
          · exact ⟨hs₃.extBut _ _ (off' p hp).2.2.2 (N₂ p (List.mem_cons_of_mem _ hp)).1, (N₂ p (List.mem_cons_of_mem _ hp)).2⟩
        have hIown : ∃ o, (I, o) ∈ PyProof.Rows.ownOf h₀ fp h₃ := by
          obtain ⟨oI, hoI⟩ := hlive _ _ hst₃ I hIf
          exact ⟨oI, mem_ownOf hIf hI₀ hoI⟩
        have T := step i v ys news' h₃ tk₂ (PyProof.Rows.ownOf h₀ fp h₃ ++ [(C, oC), (D, lst ys), (X, oX₃)]) [I, D, C, X] C X oX₃ (notedBy (model prog w) A (compEnvC scope ((x, X) :: cl) C env) fun e s' => RR (.ref D) C (.error e) s') hlt hPv hyl hJ'
          (fun b hb hn o e => List.mem_append_left _ (mem_ownOf hb hn e)) (fun p hp => by
            rcases List.mem_append.mp hp with hp | hp
            · exact .inl (ownOf_sub p hp)
            · rcases List.mem_cons.mp hp with rfl | hp
              · exact .inr (by simp)
              · rcases List.mem_cons.mp hp with rfl | hp
                · exact .inr (by simp)
                · rw [List.mem_singleton.mp hp]; exact .inr (by simp))
          (fun b hb => by
            have hb' : b = I ∨ b = D ∨ b = C ∨ b = X := by simpa using hb
            rcases hb' with rfl | rfl | rfl | rfl
            · obtain ⟨o, ho⟩ := hIown; exact ⟨o, List.mem_append_left _ ho⟩
            · exact ⟨lst ys, by simp⟩
            · exact ⟨oC, by simp⟩
            · exact ⟨oX₃, by simp⟩)
          (hlive _ _ hst₃) (fun p hp hb => by
            have hb' : p.1 = I ∨ p.1 = D ∨ p.1 = C ∨ p.1 = X := by simpa using hb
            rcases hb' with e | e | e | e
            · exact (off' p hp).1 e
            · exact (off' p hp).2.1 e
            · exact (off' p hp).2.2.1 e
            · exact (off' p hp).2.2.2 e)
          (List.mem_append_right _ (by simp)) hdX F₃ N₃
        have after : ∀ zs s₅, CStep h₀ L m (fun ys nw => J (i + 1) ys nw) (PyProof.Rows.ownOf h₀ fp h₃ ++ [(C, oC), (D, lst ys), (X, oX₃)]) [I, D, C, X] zs { s₂ with heap := h₃, toks := tk₂ } s₅ →
            CAftX h₀ L m St J I D C X s₂ oC (lst ys) oX₃ i zs s₅ := by
          rintro zs s₅ ⟨h₄, tk₄, news₄, rfl, F₄, N₄, hsep, hJ₄⟩
          have own_ : ∀ p ∈ PyProof.Rows.ownOf h₀ fp h₃ ++ [(C, oC), (D, lst ys), (X, oX₃)], h₄.get? p.1 = some p.2 := fun p hp => (N₄ p (List.mem_append_left _ hp)).1
          refine ⟨h₄, tk₄, news₄, rfl, F₄, own_ (C, oC) (List.mem_append_right _ (by simp)), own_ (D, lst ys) (List.mem_append_right _ (by simp)), own_ (X, oX₃) (List.mem_append_right _ (by simp)), fun p hp => N₄ p (List.mem_append_right _ hp), ?_, fun p hp => ?_, hJ₄⟩
          · refine W.frame _ _ _ hst₃ fun b hb o e => ?_
            cases hn : h₀.get? b with
            | some o₀ =>
              have : o₀ = o := by have q := F₃.keep b o₀ hn; rw [e] at q; exact (Option.some.inj q).symm
              exact this ▸ F₄.keep b o₀ hn
            | none => exact own_ (b, o) (List.mem_append_left _ (mem_ownOf hb hn e))
          · have := hsep p hp
            simp only [List.mem_cons, List.not_mem_nil, or_false, not_or] at this
            exact this
        refine wpAny_mono T (fun ok s₄ hq => ?_) fun _ _ e => e
        cases ok with
        | false =>
          simp only [Bool.false_eq_true, if_false] at hq ⊢
          obtain ⟨h₄, tk₄, news₄, rfl, F₄, zC, zD, zX, N₄, hst₄, off₄, hJ₄⟩ := after _ _ hq
          refine ⟨n + 1 - (i + 1), by omega, h₄, tk₄, i + 1, ys, _, news₄, rfl, hlt, rfl, by omega, hst₄, F₄, hoC.ns zC, ⟨_, _, zX, hdX⟩, fun p hp => ?_, off₄, hJ₄⟩
          rcases List.mem_cons.mp hp with rfl | hp
          · exact ⟨zD, hDL, hD₀⟩
          · exact N₄ p hp
        | true =>
          simp only [if_true] at hq ⊢
          refine wpAny_mono hq (fun y s₅ hq5 => ?_) fun _ _ e => e
          obtain ⟨h₄, tk₄, news₄, rfl, F₄, zC, zD, zX, N₄, hst₄, off₄, hJ₄⟩ := after _ _ hq5
          refine append_at (hsz := by show ys.toArray.size ≤ sizeLine; rw [List.size_toArray]; omega) zD fun h₅ hs₅ hD₅ => ?_
          refine ⟨n + 1 - (i + 1), by omega, h₅, tk₄, i + 1, ys ++ [y], _, news₄, rfl, hlt, rfl, by rw [List.length_append, List.length_singleton]; omega, W.frame _ _ _ hst₄ fun b hb o e => hs₅.extBut b o (fun q => hDf (q ▸ hb)) e, F₄.change hs₅ hDL hD₀,
            (hoC.ns zC).sameBut hs₅ (Ne.symm hDC), ⟨_, _, hs₅.extBut _ _ hXD zX, hdX⟩, fun p hp => ?_, off₄, hJ₄⟩
          rcases List.mem_cons.mp hp with rfl | hp
          · exact ⟨hD₅.trans (congrArg some (lst_snoc ys y)), hDL, hD₀⟩
          · exact ⟨hs₅.extBut _ _ (off₄ p hp).2.1 (N₄ p hp).1, (N₄ p hp).2⟩
      · obtain rfl : i = n := Nat.le_antisymm hi (Nat.not_lt.mp hlt)
        refine W.done _ _ _ hst' fun h₂ tk₂ hk₂ => ?_
        have N₂ : News h₀ L h₂ ((D, lst ys) :: news') := LCg.news_but N' hk₂ fun p hp => by
          rcases List.mem_cons.mp hp with rfl | hp
          · exact Ne.symm hDI
          · exact (off' p hp).1
        refine hRR D C h₂ tk₂ _ (LCg.fr_but F' hk₂ hIL hI₀) hDL hD₀ (hn'.at' fun o e => hk₂ _ o (by simpa using Ne.symm hCI) e) hC₀ hCL (Ne.symm hDC) fun h'' tk'' F'' hk'' => ?_
        refine done D h'' tk'' ys news' hJ' hyl F'' (fun p hp => ?_) fun p hp => (off' p hp).2.1
        have hp2 : p.1 ≠ C := by
          rcases List.mem_cons.mp hp with rfl | hp
          · exact hDC
          · exact (off' p hp).2.2.1
        exact ⟨hk'' _ _ hp2 (N₂ p hp).2.1 (N₂ p hp).1, (N₂ p hp).2⟩
    · rcases List.mem_cons.mp hp with rfl | hp
      · exact ⟨hacc, hDL, hD₀⟩
      · exact ⟨old _ _ (N p hp).1, (N p hp).2⟩
  exact codeAny_compStart_list (loop _ rfl) (W.self 0 _ _ _ hst₁ (loop _ rfl))

theorem assign_compX {iter : Expr} {y : Str} {px py : Pos} {pos spos : Pos} {Q : Flow → Shared → Prop} (_F₀ : Fr h₀ L s.heap m) (hLe : env.locals = L)
    (hsw : swapsWith (.ListComp elt [⟨.Name x px, iter, ifs, 0⟩] scope pos) (some (.Name y py)) spos.line env = pure true)
    (hclos : closureFor scope env = pure cl) (hcell : OneCell scope.names x) (hkind : scope.kind = .function)
    (hnames : ∀ z ∈ scope.names, z.2 = .local → scope.names.lookup z.1 = some .local) (hx : scope.names.lookup x = some .cell)
    (hy : env.kindOf y = some .local) (hp : (env.scope.kind == .class || (env.scope.kind == .module && env.locals != env.globals)) = false)
    (h : wpAny (model prog w) A (eval iter env) (fun xv s₁ => wpAny (model prog w) A (pyIter xv) (fun it s₂ => CompAtX prog w A h₀ L m env elt x ifs scope cl (fun D z => if z = y then some (.ref D) else m z) (fun _ s' => Q .next s') it s₂) E s₁) E s)
    (hs : ∀ x, foldedSetIterable iter env x = pure x := by intro _; rfl) :
    wpAny (model prog w) A (exec (.Assign [.Name y py] (.ListComp elt [⟨.Name x px, iter, ifs, 0⟩] scope pos) spos) env) Q E s := by
  subst hLe
  rw [exec_Assign_Name_used _ _ _ _ hsw]
  refine wpAny_bind (wpAny_standAt (wpAny_bind ?_))
  show wpAny _ A (do let _ ← comprehension (.ListComp elt [⟨.Name x px, iter, ifs, 0⟩] scope pos) scope env _ (newList []) false (eval iter env) (some (assign (.Name y py) env))) _ _ s
  refine wpAny_bind (wpAny_mono (wpAny_comprehension_free (use := some (assign (.Name y py) env)) (Q := fun _ s' => Q .next s') rfl hs hclos hkind hnames
    (wpAny_mono h (fun xv s₁ h₁ => wpAny_mono h₁ (fun it s₂ h₂ => ?_) fun _ _ e => e) fun _ _ e => e)) (fun _ s' hq => wpAny_pure (wpAny_pure hq)) fun _ _ e => e)
  refine comp_blockX (RR := fun acc C => compPost (model prog w) A E (some (assign (.Name y py) env)) (fun _ s' => Q .next s') acc C) hcell hkind hx h₂ ?_
  intro D C h tk m' F hDL hD₀ hn hC₀ hCL hCD fin
  show wpAny _ A (assign (.Name y py) env (.ref D)) _ _ _
  refine wpAny_assign_Name (wpAny_storeName_local hy F.ns (fun h₂ hn₂ hs₂ => ?_) hp)
  have hL₀ : h₀.get? env.locals = none := Heap.get?_none_of_le F.above
  have F₂ : Fr h₀ env.locals h₂ (fun z => if z = y then some (.ref D) else m z) := ⟨hn₂, fun b o e => hs₂.extBut b o (fun q => by rw [q, hL₀] at e; cases e) (F.keep b o e), F.above⟩
  refine ⟨m', hn.sameBut hs₂ hCL, fun h'' hs'' => fin h'' _ (F₂.change hs'' hCL hC₀) fun b o hb hbL e => hs''.extBut b o hb (hs₂.extBut b o hbL e)⟩

theorem comp_ofX {σ : Type} {I : Addr} {fp : List Addr} {n : Nat} {P : Nat → Value → Prop} {St : Nat → Heap → Prop} {mf : Addr → Str → Option Value} {Fin : Addr → Shared → Prop} (Led : σ → List (Addr × Obj)) (ys : σ → List Value) (J : Nat → σ → Prop) (c₀ : σ) (fix : List (Addr × Obj)) {news : List (Addr × Obj)}
    (W : Walks prog w A I fp [I] n P St) (hsz : n ≤ sizeLine) (hLf : L ∉ fp) (hI₀ : h₀.get? I = none) (hfp : ∀ b ∈ fp, b < s.heap.objs.size) (hst : St 0 s.heap) (hlive : ∀ i h, St i h → ∀ b ∈ fp, ∃ o, h.get? b = some o)
    (F : Fr h₀ L s.heap m) (N : News h₀ L s.heap news) (hin : ∀ p ∈ Led c₀ ++ fix, p ∈ news) (hnI : ∀ p ∈ Led c₀ ++ fix, p.1 ≠ I) (hoff : ∀ q ∈ Led c₀, ∀ p ∈ fix, @Ne Nat p.1 q.1) (hcf : ∀ p ∈ Led c₀, p.1 ∉ fp) (hy0 : ys c₀ = []) (hj : J 0 c₀)
    (turn : ∀ i v c h tk own C X oX E', P i v → i < n → J i c → (ys c).length ≤ i → (X, oX) ∈ own → oX.data = .cell (some v) → Fr h₀ L h m → News h₀ L h (Led c ++ (fix ++ own)) → (∀ q ∈ Led c, ∀ p ∈ fix ++ own, @Ne Nat p.1 q.1) →
      wpAny (model prog w) A (testsOf ifs (compEnvC scope ((x, X) :: cl) C env)) (fun ok s₃ => if ok = true then wpAny (model prog w) A (eval elt (compEnvC scope ((x, X) :: cl) C env)) (fun y s₄ => CompEnd h₀ L m Led ys (J (i + 1)) (fix ++ own) (ys c ++ [y]) { s with heap := h, toks := tk } s₄) E' s₃
        else CompEnd h₀ L m Led ys (J (i + 1)) (fix ++ own) (ys c) { s with heap := h, toks := tk } s₃) E' { s with heap := h, toks := tk })
    (done : ∀ D c h' tk, J n c → (ys c).length ≤ n → Fr h₀ L h' (mf D) → News h₀ L h' ((D, lst (ys c)) :: (Led c ++ fix)) → (∀ p ∈ Led c ++ fix, @Ne Nat p.1 D) → (∀ q ∈ Led c, ∀ p ∈ fix, @Ne Nat p.1 q.1) → Fin D { s with heap := h', toks := tk }) :
    CompAtX prog w A h₀ L m env elt x ifs scope cl mf Fin (.ref I) s := by
  have hIf : I ∈ fp := W.sub I (List.mem_singleton.mpr rfl)
  refine ⟨I, fp, n, P, St, Led c₀ ++ fix, fun i zs nw => ∃ c, nw = Led c ++ fix ∧ zs = ys c ∧ (∀ q ∈ Led c, ∀ p ∈ fix, @Ne Nat p.1 q.1) ∧ (∀ p ∈ Led c, p.1 ∉ fp) ∧ J i c, rfl, W, hsz, hLf, hI₀, hfp, hnI, hst, hlive, F, fun p hp => N p (hin p hp),
    ⟨c₀, rfl, hy0.symm, hoff, hcf, hj⟩, ?_, ?_⟩
  · rintro i v zs nw h₁ tk₁ own bad C X oX E' hi hP hzl ⟨c, rfl, rfl, hof, hcf', hJ⟩ hall hown hbad hlv hnb hCm hoC F₁ N₁
    have hsep : ∀ q ∈ Led c, ∀ p ∈ fix ++ own, @Ne Nat p.1 q.1 := fun q hq p hp => by
      rcases List.mem_append.mp hp with hp | hp
      · exact hof q hq p hp
      · intro e
        have e' : p.1 = q.1 := e
        rcases hown p hp with hpf | hpf
        · exact hcf' q hq (by rw [← e']; exact hpf)
        · exact hnb q (List.mem_append_left _ hq) (by rw [← e']; exact hpf)
    have N₂ : News h₀ L h₁ (Led c ++ (fix ++ own)) := fun p hp => N₁ p (by
      rcases List.mem_append.mp hp with hp | hp
      · exact List.mem_append_right _ (List.mem_append_left _ hp)
      · rcases List.mem_append.mp hp with hp | hp
        · exact List.mem_append_right _ (List.mem_append_right _ hp)
        · exact List.mem_append_left _ hp)
    have key : ∀ out s₃, CompEnd h₀ L m Led ys (J (i + 1)) (fix ++ own) out { s with heap := h₁, toks := tk₁ } s₃ →
        CStep h₀ L m (fun zs nw => ∃ c, nw = Led c ++ fix ∧ zs = ys c ∧ (∀ q ∈ Led c, ∀ p ∈ fix, @Ne Nat p.1 q.1) ∧ (∀ p ∈ Led c, p.1 ∉ fp) ∧ J (i + 1) c) own bad out { s with heap := h₁, toks := tk₁ } s₃ := by
      rintro out s₃ ⟨c', h', tk', news', rfl, F', N', hm, hs, rfl, hJ'⟩
      refine ⟨h', tk', Led c' ++ fix, rfl, F', fun p hp => N' p (hm p ?_), fun p hp hb => ?_, c', rfl, rfl, fun q hq p hp => hs q hq p (List.mem_append_left _ hp), fun p hp hb => ?_, hJ'⟩
      · rcases List.mem_append.mp hp with hp | hp
        · exact List.mem_append_right _ (List.mem_append_right _ hp)
        · rcases List.mem_append.mp hp with hp | hp
          · exact List.mem_append_left _ hp
          · exact List.mem_append_right _ (List.mem_append_left _ hp)
      · rcases List.mem_append.mp hp with hp | hp
        · obtain ⟨o, ho⟩ := hbad p.1 hb
          exact hs p hp (p.1, o) (List.mem_append_right _ ho) rfl
        · exact hnb p (List.mem_append_right _ hp) hb
      · obtain ⟨o, ho⟩ := hlv p.1 hb
        have h0 := (N' p (hm p (List.mem_append_left _ hp))).2.2
        exact hs p hp (p.1, o) (List.mem_append_right _ (hall p.1 hb h0 o ho)) rfl
    refine wpAny_mono (turn i v c h₁ tk₁ own C X oX E' hP hi hJ hzl hCm hoC F₁ N₂ hsep) (fun ok s₃ hq => ?_) fun _ _ e => e
    cases ok with
    | false =>
      simp only [Bool.false_eq_true, if_false] at hq ⊢
      exact key _ _ hq
    | true =>
      simp only [if_true] at hq ⊢
      exact wpAny_mono hq (fun y s₄ hq4 => key _ _ hq4) fun _ _ e => e
  · rintro D h' tk zs nw ⟨c, rfl, rfl, hof, _, hJ⟩ hzl F' N' hD
    exact done D c h' tk hJ hzl F' N' hD hof

theorem comp_listX {σ : Type} {l : Addr} {vs : List Value} {mf : Addr → Str → Option Value} {Fin : Addr → Shared → Prop} (Led : σ → List (Addr × Obj)) (ys : σ → List Value) (J : Nat → σ → Prop) (c₀ : σ) (fix : List (Addr × Obj)) {news : List (Addr × Obj)}
    (hh : A.handled = none) (hl : s.heap.IsList l vs.toArray) (hlL : l ≠ L) (hsz : vs.length ≤ sizeLine)
    (F : Fr h₀ L s.heap m) (N : News h₀ L s.heap news) (hin : ∀ p ∈ Led c₀ ++ fix, p ∈ news) (hoff : ∀ q ∈ Led c₀, ∀ p ∈ fix, @Ne Nat p.1 q.1) (hll : ∀ p ∈ Led c₀, @Ne Nat p.1 l) (hy0 : ys c₀ = []) (hj : J 0 c₀)
    (turn : ∀ i v c h tk own C X oX E', vs[i]? = some v → i < vs.length → J i c → (ys c).length ≤ i → (X, oX) ∈ own → oX.data = .cell (some v) → Fr h₀ L h m → News h₀ L h (Led c ++ (fix ++ own)) → (∀ q ∈ Led c, ∀ p ∈ fix ++ own, @Ne Nat p.1 q.1) →
      wpAny (model prog w) A (testsOf ifs (compEnvC scope ((x, X) :: cl) C env)) (fun ok s₃ => if ok = true then wpAny (model prog w) A (eval elt (compEnvC scope ((x, X) :: cl) C env)) (fun y s₄ => CompEnd h₀ L m Led ys (J (i + 1)) (fix ++ own) (ys c ++ [y]) { s with heap := h, toks := tk } s₄) E' s₃
        else CompEnd h₀ L m Led ys (J (i + 1)) (fix ++ own) (ys c) { s with heap := h, toks := tk } s₃) E' { s with heap := h, toks := tk })
    (done : ∀ D c h' tk, J vs.length c → (ys c).length ≤ vs.length → Fr h₀ L h' (mf D) → News h₀ L h' ((D, lst (ys c)) :: (Led c ++ fix)) → (∀ p ∈ Led c ++ fix, @Ne Nat p.1 D) → (∀ q ∈ Led c, ∀ p ∈ fix, @Ne Nat p.1 q.1) → Fin D { s with heap := h', toks := tk }) :
    wpAny (model prog w) A (pyIter (.ref l)) (fun it s₂ => CompAtX prog w A h₀ L m env elt x ifs scope cl mf Fin it s₂) E s := by
  have hlt : l < s.heap.objs.size := by obtain ⟨_, e, _⟩ := hl; exact Heap.lt_size e
  refine wpAny_pyIter_list hl ?_
  have up : ∀ b o, s.heap.get? b = some o → (s.heap.push { cls := .type "list_iterator", data := .fields #[.ref l, .int 0 0] }).get? b = some o := fun b o e => Heap.get?_push_of_some _ e
  have W := Walks.list (prog := prog) (w := w) hh s.heap.objs.size l (Nat.ne_of_lt hlt) vs.toArray
  have hz : vs.toArray.size = vs.length := by simp
  rw [hz] at W
  have hLlt := F.ns.lt
  refine comp_ofX (s := { s with heap := s.heap.push { cls := .type "list_iterator", data := .fields #[.ref l, .int 0 0] } }) Led ys J c₀ fix W hsz ?_ (next_is_new F) (fun b hb => ?_) ⟨⟨_, Heap.get?_push_size _ rfl, rfl, rfl⟩, hl.push _⟩ ?_ (F.keeps up) (N.grown up) hin
    (fun p hp => Nat.ne_of_lt (Heap.lt_size (N p (hin p hp)).1)) hoff (fun p hp hb => ?_) hy0 hj (fun i v c h tk own C X oX E' hP hi => turn i v c h tk own C X oX E' (by simpa using hP) hi) done
  · intro hb
    rcases List.mem_cons.mp hb with e | hb
    · exact Nat.lt_irrefl _ (e ▸ hLlt)
    · exact hlL (List.mem_singleton.mp hb).symm
  · show b < (s.heap.push _).objs.size
    rw [Heap.size_push]
    rcases List.mem_cons.mp hb with rfl | hb
    · exact Nat.lt_succ_self _
    · rw [List.mem_singleton.mp hb]; exact Nat.lt_succ_of_lt hlt
  · rintro i h ⟨⟨o1, ho1, _⟩, ⟨o2, ho2, _⟩⟩ b hb
    rcases List.mem_cons.mp hb with rfl | hb
    · exact ⟨_, ho1⟩
    · rw [List.mem_singleton.mp hb]; exact ⟨_, ho2⟩
  · rcases List.mem_cons.mp hb with e | hb
    · exact Nat.ne_of_lt (Heap.lt_size (N p (hin p (List.mem_append_left _ hp))).1) e
    · exact hll p hp (List.mem_singleton.mp hb)

end
end Mine
namespace Mine
section
variable {prog : Program} {w : World} {A : Around} {E : Value → Shared → Prop} {s : Shared} {env : Env} {h₀ : Heap} {x : Str} {body : List Stmt} {Q : Flow → Shared → Prop} {m₀ : Str → Option Value} {l : Addr} {vs : List Value}
theorem iter_listN {L : Addr} (hL : env.locals = L) {σ : Type} {y : Str} {pos : Pos} (Led : σ → List (Addr × Obj)) (ps : σ → List (Str × Value)) (st : List Str) (J : Nat → σ → Prop) (c₀ : σ) (fix : List (Addr × Obj)) {news : List (Addr × Obj)}
    (hh : A.handled = none) (hl : s.heap.IsList l vs.toArray) (hlL : l ≠ L) (F : Fr h₀ L s.heap m₀) (N : News h₀ L s.heap news) (hin : ∀ p ∈ Led c₀ ++ fix, p ∈ news)
    (hoff : ∀ q ∈ Led c₀, ∀ p ∈ fix, @Ne Nat p.1 q.1) (hll : ∀ k c, J k c → ∀ p ∈ Led c, @Ne Nat p.1 l)
    (hps : ∀ p ∈ ps c₀, m₀ p.1 = some p.2) (hj : J 0 c₀)
    (turn : ∀ i v c u h tk own, vs[i]? = some v → i < vs.length → J i c → Fr h₀ L h (setv (ps c) (x :: st) u m₀) → News h₀ L h (Led c ++ (fix ++ own)) → (∀ q ∈ Led c, ∀ p ∈ fix ++ own, @Ne Nat p.1 q.1) →
      wpAny (model prog w) A (assign (.Name y pos) env v) (fun _ s₂ => wpAny (model prog w) A (execs body env) (ForPost h₀ L Led ps st m₀ x (J (i + 1)) (fix ++ own) { s with heap := h, toks := tk } Q) E s₂) E { s with heap := h, toks := tk })
    (done : ∀ c u h tk, J vs.length c → Fr h₀ L h (setv (ps c) (x :: st) u m₀) → News h₀ L h (Led c ++ fix) → (∀ q ∈ Led c, ∀ p ∈ fix, @Ne Nat p.1 q.1) → Q .next { s with heap := h, toks := tk }) :
    wpAny (model prog w) A (pyIter (.ref l)) (fun it s₂ => TurnsAt prog w A h₀ env (.Name y pos) body Q E it s₂) E s := by
  subst hL
  obtain ⟨ol, hol, _⟩ := id hl
  have hlt : l < s.heap.objs.size := Heap.lt_size hol
  have hne : l ≠ s.heap.objs.size := Nat.ne_of_lt hlt
  refine wpAny_pyIter_list hl ?_
  have W := KTurns.ofWalks (target := .Name y pos) (Walks.list (prog := prog) (w := w) hh s.heap.objs.size l hne vs.toArray) (fun i v s Q E st hQ => wpAny_pure hQ)
  have hsz : vs.toArray.size = vs.length := by simp
  rw [hsz] at W
  have up : ∀ b o, s.heap.get? b = some o → (s.heap.push { cls := .type "list_iterator", data := .fields #[.ref l, .int 0 0] }).get? b = some o := fun b o e => Heap.get?_push_of_some _ e
  refine iter_turns W Led ps st J c₀ fix ?_ (fun b hb => by rw [List.mem_singleton.mp hb]; exact next_is_new F) ⟨⟨_, Heap.get?_push_size _ rfl, rfl, rfl⟩, hl.at fun o e => up _ o e⟩ (F.push _) (fun p hp => ⟨up _ _ (N p hp).1, (N p hp).2⟩) hin
    (fun p hp hm => Nat.ne_of_lt (Heap.lt_size (N p (hin p hp)).1) (List.mem_singleton.mp hm)) hoff (fun k c hJc p hp hI hm => ?_) hps hj (fun i h hSt b hb => ?_) (fun i v c u h tk own hP hi hJ F N hs _ => turn i v c u h tk own (by simpa using hP) hi hJ F N hs) done
  · intro hm
    rcases List.mem_cons.mp hm with e | hm
    · exact absurd F.ns.lt (e ▸ Nat.lt_irrefl _)
    · exact hlL (List.mem_singleton.mp hm).symm
  · rcases List.mem_cons.mp hm with e | hm
    · exact hI (by rw [e]; exact List.mem_singleton.mpr rfl)
    · exact hll k c hJc p hp (List.mem_singleton.mp hm)
  · rw [List.mem_singleton.mp hb]
    obtain ⟨⟨o, e, _⟩, _⟩ := hSt; exact ⟨o, e⟩
end
end Mine
namespace Mine
theorem lay_hl : True := by
  k_with "my_hl" => (refine leftT (by rfl) (by rfl) (fun s => by rfl) hl_all ?_; (change ∀ w os, Option.map _ (Mine.hdRunS PySem.Challenge.pw_nu0071_01 w 7002 (Mine.hdBoot w os)) = _); rw [PySem.W.Fast.te10961918085790690358]; intro w os; kernel_rfl)
  trivial
noncomputable def lawView : Program := { PySem.Challenge.pw_nu0071_01 with main := { PySem.Challenge.pw_nu0071_01.main with body := PySem.Challenge.pw_nu0071_01.main.body.take 1 ++ ((PySem.Challenge.pw_nu0071_01.main.body.drop 2).take 3 ++ ((PySem.Challenge.pw_nu0071_01.main.body.drop 6).take 11 ++ ((PySem.Challenge.pw_nu0071_01.main.body.drop 18).take 4 ++ ((PySem.Challenge.pw_nu0071_01.main.body.drop 23).take 4 ++ ((PySem.Challenge.pw_nu0071_01.main.body.drop 28).take 6 ++ ((PySem.Challenge.pw_nu0071_01.main.body.drop 35).take 3 ++ ((PySem.Challenge.pw_nu0071_01.main.body.drop 39).take 2 ++ PySem.Challenge.pw_nu0071_01.main.body.drop 42))))))) } }
theorem said1 : OpenLaw.wellSaid PySem.Challenge.rw_nu0071_01 = true := by kernel_rfl
noncomputable def tRun (tb : String → Option Builtin) (p : Program) (w : World) (n₀ : Nat) (ann : Option Value) : Nat → SharedT → Thread → Option SharedT
  | 0, _, _ => none
  | n + 1, s, t => match through t with
    | true => some s
    | false => match stepOk n₀ ann t with
      | false => none
      | true => match stepT (denote tb) p w s t with
        | some (s', t') => tRun tb p w n₀ ann n s' t'
        | none => none
theorem tRun_of {tb : String → Option Builtin} {p : Program} {w : World} {n₀ : Nat} {ann : Option Value} : ∀ {n : Nat} {s s' : SharedT} {t : Thread}, tRun tb p w n₀ ann n s t = some s' → topRun tb p w n₀ ann n s.abs t = some s'.abs
  | 0, _, _, _, h => by cases h
  | n + 1, s, s', t, h => by
    unfold tRun at h
    unfold topRun
    cases he : through t with
    | true => rw [he] at h; cases h; rfl
    | false =>
      rw [he] at h
      cases hk : stepOk n₀ ann t with
      | false => rw [hk] at h; cases h
      | true =>
        rw [hk] at h
        cases hs : stepT (denote tb) p w s t with
        | none => rw [hs] at h; cases h
        | some r => obtain ⟨s₂, t₂⟩ := r; rw [hs] at h; dsimp only; rw [stepT_spec hs]; exact tRun_of h
noncomputable def hdTree (P : Params) : BT := ((boot_heap P).objs.toList.foldl (fun p o => (p.1.ins p.2 o, p.2 + 1)) (.nil, 0)).1
theorem boot_size : ∀ P, (boot_heap P).objs.size = 11 := fun P => by kernel_rfl
theorem boot_abs : ∀ P, absHeap (hdTree P) 11 (boot_heap P).life = boot_heap P := fun P => by kernel_rfl
theorem boot_ann : ∀ P, (boot_heap P).nsMap mainGlobals "__annotations__" = some (.ref 6) := fun P => by kernel_rfl
theorem boot_ns : ∀ P, (boot_heap P).isNs mainGlobals = true := fun P => by kernel_rfl
noncomputable def hdRunS (p : Program) (w : World) (N : Nat) (s : SharedT) : Option SharedT := tRun treeTable p w 11 (some (.ref 6)) N s (topStub p)
noncomputable def hdBoot (w : World) (os : OsState) : SharedT := ⟨hdTree w.params, 11, (boot_heap w.params).life, #[], boot_drawn, boot_toks, os⟩
noncomputable def hdSide (p : Program) (w : World) (s : Shared) : Bool := staticsOk (importedModules p.main.body) (boot_heap w.params) s.heap && namesBound p s.heap && gensDone s && laidKept (boot_heap w.params) s.heap
theorem ends_of {p : Program} {N : Nat} (e : opening p = plainProg p.main.scope.names) (hN : Nat.ble 600 N = true) (hf : ∀ s, fenceModules? p s = some s) (w : World) : ∃ os, ∀ s, hdRunS p w N (hdBoot w os) = some s → hdSide p w s.abs = true → openEnds treeTable p w N = some s.abs := by
  obtain ⟨s₀, a, b⟩ := Option.map_eq_some_iff.mp (boot_open e hN hf w)
  obtain ⟨hp, gens, drawn, toks, os⟩ := s₀
  simp only [Prod.mk.injEq] at b
  obtain ⟨rfl, rfl, rfl, rfl⟩ := b
  refine ⟨os, fun s hr hs => ?_⟩
  have r := tRun_of hr
  rw [show (hdBoot w os).abs = ⟨boot_heap w.params, #[], boot_drawn, boot_toks, os⟩ from congrArg (fun h => (⟨h, #[], boot_drawn, boot_toks, os⟩ : Shared)) (boot_abs w.params)] at r
  unfold openEnds
  rw [a, Option.bind_some]
  unfold topFrom
  dsimp only
  rw [boot_ns, boot_ann, boot_size]
  unfold hdSide at hs
  change Option.bind (topRun treeTable p w 11 (some (.ref 6)) N ⟨boot_heap w.params, #[], boot_drawn, boot_toks, os⟩ (topStub p)) _ = _
  rw [r, Option.bind_some]
  change (match staticsOk _ _ _ && _ && _ && _ with | true => _ | false => _) = _
  rw [hs]
theorem leftT {p q : Program} {loose : List Str} {Xt : Shared → Bool} {α : Type} {Yf : Shared → α} {Ya : World → α} {N : Nat} (e : opening p = plainProg p.main.scope.names) (hN : Nat.ble 600 N = true) (hf : ∀ s, fenceModules? p s = some s)
    (h1 : ∀ w os, (hdRunS p w N (hdBoot w os)).map (fun s => (hdSide p w s.abs, openSeen q loose (importedModules p.main.body) Xt true s.abs)) = some (true, openGood q loose))
    (h2 : ∀ w os, (hdRunS p w N (hdBoot w os)).map (fun s => Yf s.abs) = some (Ya w)) : LeftO p q loose Xt Yf Ya N := fun w => by
  obtain ⟨os, ho⟩ := ends_of e hN hf w
  obtain ⟨s, hr, hs⟩ := Option.map_eq_some_iff.mp (h1 w os)
  obtain ⟨hs, hg⟩ := Prod.mk.inj hs
  have y := h2 w os
  rw [hr, Option.map_some, Option.some.injEq] at y
  rw [ho s hr hs, Option.map_some, hg, y]
lay_quick Mine.hdRunS
theorem hl_all : ∀ w os, (hdRunS PySem.Challenge.pw_nu0071_01 w 7002 (hdBoot w os)).map (fun s => (hdSide PySem.Challenge.pw_nu0071_01 w s.abs, openSeen lawView [] (importedModules PySem.Challenge.pw_nu0071_01.main.body) (fun s => xlAt lawView [] s && recOk (RowW.records (OpenRow.toRowW PySem.Challenge.rw_nu0071_01.row)) s) true s.abs)) = some (true, openGood lawView []) := by
  rw [PySem.W.Fast.te10961918085790690358]
  intro w os
  kernel_rfl
local macro_rules | `(tactic| o_law) => `(tactic| refine holds_law Mine.said1 fun said => ?_)
theorem my_open {d : DefRec} {kwd : List (Str × Expr)} (H : Hook) (left : LeftO (OpenLaw.row PySem.Challenge.rw_nu0071_01).prog Mine.lawView [] (fun s => xlAt Mine.lawView [] s && recOk (RowW.records (OpenRow.toRowW (OpenLaw.row PySem.Challenge.rw_nu0071_01))) s) H.obs H.val 7002)
    (hdef : defOf Mine.lawView (OpenLaw.row PySem.Challenge.rw_nu0071_01).name = some (d, kwd)) (hp : (OpenLaw.row PySem.Challenge.rw_nu0071_01).prog.theDef (OpenLaw.row PySem.Challenge.rw_nu0071_01).name = some (d.params, d.body, d.scope)) (hk : kwWritten? d.params.kwonlyargs d.params.kw_defaults = some kwd)
    (k1 : (OpenLaw.row PySem.Challenge.rw_nu0071_01).wellSaid = true) (hw : (OpenRow.toRowW (OpenLaw.row PySem.Challenge.rw_nu0071_01)).promised) (call : WalkO Mine.lawView [] (XL Mine.lawView []) H.says (OpenRow.toRowW (OpenLaw.row PySem.Challenge.rw_nu0071_01)) d kwd fun f vs => PySem.call f vs) : (OpenLaw.row PySem.Challenge.rw_nu0071_01).Holds :=
  holds_open (q := Mine.lawView) (loose := []) (Xt := fun s => xlAt Mine.lawView [] s && recOk (RowW.records (OpenRow.toRowW (OpenLaw.row PySem.Challenge.rw_nu0071_01))) s) (XP := XL Mine.lawView []) (Yf := H.obs) (Ya := H.val) (YP := H.says) (N := 7002) left H.of H.keeps (fun s e => xl_of s (Bool.and_eq_true_iff.mp e).1) XL.keeps hdef hp hk (fun s e => recFacts_of (Bool.and_eq_true_iff.mp e).2) (by rfl) k1 (by decide +kernel) ⟨rfl, rfl, rfl, rfl, rfl, by decide +kernel⟩ hw call
local macro_rules | `(tactic| o_head $H) => `(tactic| (refine Mine.my_open $H ?hl (by rfl) (by rfl) (by rfl) (by first | assumption | decide +kernel) ?hw ?hc; (case hl => walk_at "my_hl")))
set_option maxHeartbeats 8000000 in
open_top hd for PySem.Challenge.rw_nu0071_01
theorem fill_all : (fun (_ : OpenLaw) (_ : Params → Frag) => True) PySem.Challenge.rw_nu0071_01 hd.heap_1 := by
  k_fill
  w_top off
  trivial
theorem lay_1 : True := by
  k_with "w pyIter ref" =>
    ((with_reducible show wpAny _ _ (pyIter (Value.ref _)) _ _ _); refine stop_ ?_)
  k_with "w exec While" =>
    ((with_reducible show wpAny _ _ (exec (Stmt.While _ _ _ _) _) _ _ _); refine stop_ ?_)
  k_with "w call builtin:list.append" =>
    ((with_reducible show wpAny _ _ (call (Value.builtin "list.append") _) _ _ _); refine stop_ ?_)
  k_with "w call builtin:list.extend" =>
    ((with_reducible show wpAny _ _ (call (Value.builtin "list.extend") _) _ _ _); refine stop_ ?_)
  k_with "w call builtin:list.pop" =>
    ((with_reducible show wpAny _ _ (call (Value.builtin "list.pop") _) _ _ _); refine stop_ ?_)
  k_with "w call builtin:list.index" =>
    ((with_reducible show wpAny _ _ (call (Value.builtin "list.index") _) _ _ _); refine stop_ ?_)
  k_with "w call ref" =>
    ((with_reducible show wpAny _ _ (call (Value.ref _) _) _ _ _); refine stop_ ?_)
  k_with "my_enter" =>
    (
      refine' call_own (by assumption) (by assumption) ?q1k6 ?q1k7 ?q1k9 ?q1kB ?_ ?q1c2 ?q1c3 ?q1c4 ?q1c5; (case q1k6 => k_is); (case q1k7 => k_is); (case q1k9 => exact BindsTo.of_eq rfl); (case q1kB => exact locs rfl); (case q1c2 => exact rfl); (case q1c3 => exact rfl); (case q1c4 => exact rfl); (case q1c5 => decide)
      intro _ _ _ _ _ _ _ _ _ _ _ _ _ _ _ _ _ F' N' hd' hu'
      dsimp only [List.map, List.zip, List.zipWith, List.reverse, List.reverseAux] at F'
      revert F' N' hd' hu'
      intro _ _ _ _
      try dsimp only)
  k_with "my_list" =>
    first | exact News.isList (by k_asm) (by k_mem) | assumption | exact list_keep (by assumption) (by assumption)
  k_with "my_khand" =>
    exact pval_handed (by assumption)
  trivial
local macro_rules | `(tactic| walk_at $s:str) => `(tactic| k_extra $(Lean.Syntax.mkStrLit ("w " ++ s.getString)))

local macro_rules | `(tactic| k_handed) => `(tactic| walk_at "my_khand")
local macro_rules | `(tactic| k_all) => `(tactic| assumption)
theorem lay_2 : True := by
  k_with "w call type:list" =>
    (
      (with_reducible show wpAny _ _ (call (Value.type "list") [Value.ref _]) _ _ _)
      k_dflt (refine copy_r (by assumption) (by assumption) (by walk_at "my_list") (by walk_at "my_small") ?_)
      intro _ _ _ _ _ l1
      (try k_lt l1); (try revert l1); intros; (try k_sweep))
  k_with "my_kinst" =>
    first | assumption | exact inst_keep (by assumption) (by assumption)
  trivial

local macro_rules | `(tactic| k_inst) => `(tactic| walk_at "my_kinst")
theorem lay_3 : True := by
  k_with "w call builtin:len" =>
    ((with_reducible show wpAny _ _ (call (Value.builtin "len") [Value.ref _]) _ _ _); (refine len_at (by walk_at "my_list") (by walk_at "my_small") ?_); intro _ _)
  k_with "my_small" =>
    first | assumption | exact lt_lit (by assumption) (by rfl) | exact lt_add (by assumption) (by rfl) | omega | (simp only [List.length_append, List.length_reverse, List.length_cons, List.length_nil, List.length_take, List.length_drop] at *; omega)
  k_with "w subscriptTail" =>
    ((with_reducible show wpAny _ _ (subscriptTail _ _ (Value.ref _) (Value.int (Nat.cast _) _)) _ _ _); (refine item_at (by walk_at "my_list") (by assumption) (by walk_at "my_small") ?_))
  k_with "my_get" =>
    first | exact News.get (by assumption) (by k_mem) | assumption | exact Fr.keep (by assumption) _ _ (by assumption)
  k_with "w call builtin:list.pop" =>
    (
      (with_reducible show wpAny _ _ (call (Value.builtin "list.pop") [Value.ref _]) _ _ _)
      k_dflt (refine pop_r (by assumption) (by assumption) (by k_upd) (by walk_at "my_small") ?_)
      intro _ _ _
      (try k_sweep))
  k_with "w call builtin:list.append" =>
    (
      (with_reducible show wpAny _ _ (call (Value.builtin "list.append") [Value.ref _, _]) _ _ _)
      k_dflt (refine app_r (by assumption) (by assumption) (by k_upd) (by walk_at "my_small") ?_)
      intro _ _ _
      (try k_sweep))
  k_with "w call builtin:list.extend" =>
    (
      (with_reducible show wpAny _ _ (call (Value.builtin "list.extend") [Value.ref _, Value.ref _]) _ _ _)
      k_dflt (refine ext_r (by assumption) (by assumption) (by walk_at "my_get") (by k_updF) (by walk_at "my_small") ?_)
      intro _ _ _ N'
      (try dsimp only at N'); revert N'; intros
      (try k_sweep))
  k_with "w subscriptTail Name Slice ref ref" =>
    (
      (with_reducible show wpAny _ _ (subscriptTail _ (PySem.Expr.Slice none none (some _) _) (Value.ref _) (Value.ref _)) _ _ _)
      k_dflt (refine' rev_r ?q2F ?q2N ?q2l ?q2k ?q2z ?_ ?q2s ?q2t; (case q2F => k_asm); (case q2N => k_asm); (case q2l => walk_at "my_list"); (case q2k => exact IsPart.int _ _); (case q2s => with_unfolding_all rfl); (case q2t => kmk_pure); (case q2z => walk_at "my_small"))
      intro _ _ _ _ l1
      (try k_lt l1); (try revert l1); intros; (try k_sweep))
  k_with "my_mem" =>
    (
      (try dsimp only)
      (try simp only [List.cons_append, List.nil_append, List.append_nil])
      repeat' (first | exact List.forall_mem_nil _ | (refine List.forall_mem_cons.mpr ⟨by k_mem, ?_⟩) | (intro p hp; k_ownIn)))
  k_with "my_same" =>
    (
      intros
      simp only [List.contains_cons, List.contains_nil, Bool.or_false, Bool.or_eq_false_iff, beq_eq_false_iff_ne, ne_eq, all_cons, all_nil, and_true] at *
      simp_all [setv_cons_ne, setv_nil_ne])
  k_with "my_ps" =>
    (
      (try dsimp only)
      repeat' (first | exact List.forall_mem_nil _ | (refine List.forall_mem_cons.mpr ⟨by rfl, ?_⟩)))
  k_with "my_in" =>
    first | assumption | simp_all
  k_with "my_mems" =>
    skip
  k_with "w call builtin:list.index" =>
    (
      (with_reducible show wpAny _ _ (call (Value.builtin "list.index") [Value.ref _, Value.int _ _]) _ _ _)
      k_dflt (refine index_r (by walk_at "my_get") (by assumption) (by walk_at "my_in") (by walk_at "my_small") ?_)
      intro _ _)
  k_with "w subscriptTail Name Slice ref ref" =>
    (
      (with_reducible show wpAny _ _ (subscriptTail _ (PySem.Expr.Slice none (some _) none _) (Value.ref _) (Value.ref _)) _ _ _)
      k_dflt (refine' take_r ?q3F ?q3N ?q3l ?q3z ?_ ?q3s ?q3t; (case q3F => k_asm); (case q3N => k_asm); (case q3l => walk_at "my_list"); (case q3s => with_unfolding_all rfl); (case q3t => kmk_pure); (case q3z => walk_at "my_small"))
      intro _ _ _ _ l1
      (try k_lt l1); (try revert l1); intros; (try k_sweep))
  k_with "w subscriptTail Name Slice ref ref" =>
    (
      (with_reducible show wpAny _ _ (subscriptTail _ (PySem.Expr.Slice (some _) none none _) (Value.ref _) (Value.ref _)) _ _ _)
      k_dflt (refine' drop_r ?q4F ?q4N ?q4l ?q4z ?_ ?q4s ?q4t; (case q4F => k_asm); (case q4N => k_asm); (case q4l => walk_at "my_list"); (case q4s => with_unfolding_all rfl); (case q4t => kmk_pure); (case q4z => walk_at "my_small"))
      intro _ _ _ _ l1
      (try k_lt l1); (try revert l1); intros; (try k_sweep))
  k_with "w exec For Name Name cons nil" =>
    (
      (with_reducible show wpAny _ _ (exec (Stmt.For (Expr.Name _ _) _ _ [] _) _) _ _ _)
      k_dflt (refine' For_invVF ?q5F ?q5a ?q5b ?_ ?q5c ?q5d; (case q5F => assumption); (case q5a => exact rfl); (case q5b => exact rfl); (case q5c => exact fun _ => rfl); (case q5d => exact PassesOwn.never)))
  k_with "w exec For" =>
    (
      (with_reducible show wpAny _ _ (exec (Stmt.For (Expr.Name _ _) _ _ [] _) _) _ _ _)
      k_dflt (refine' For_invVF ?q6F ?q6a ?q6b ?_ ?q6c ?q6d; (case q6F => assumption); (case q6a => exact rfl); (case q6b => exact rfl); (case q6c => exact fun _ => rfl); (case q6d => exact PassesOwn.never)))
  k_with "my_sep" =>
    (
      (try dsimp only)
      (try simp only [all_cons, all_nil, List.nil_append, List.cons_append, List.append_nil, and_true, true_and, implies_true])
      (repeat' (first | assumption | (refine And.intro ?_ ?_)))
      all_goals (try simp only [all_app, all_cons, all_nil, and_true, true_and])
      (repeat' (first | assumption | (refine And.intro ?_ ?_)))
      all_goals first | walk_at "my_fact" | omega | (refine tbn_neAll ?_; tbn_find) | (intro p hp; simp_all; done))
  k_with "my_forend" =>
    (
      (case F => assumption)
      (case N => assumption)
      (case mem => walk_at "my_mem")
      (case sep => walk_at "my_sep")
      (case ps => walk_at "my_ps")
      (case m => walk_at "my_same"))
  k_with "my_nv" =>
    first | assumption | exact NV.one | exact NV.nil
  k_with "w binaryOp Add ref ref" =>
    (
      (with_reducible show wpAny _ _ (binaryOp _ (Value.ref _) (Value.ref _)) _ _ _)
      k_dflt (
        refine cat_r (by assumption) (by assumption) (by walk_at "my_list") (by walk_at "my_list") (by walk_at "my_nv") (by walk_at "my_nv") (by walk_at "my_small") ?_
        intro _ _ _ _ l1 nv'
        (first | (k_lt l1; (try revert l1); revert nv') | revert l1 nv'); intros; (try k_sweep)))
  k_with "w exec For Tuple List cons nil" =>
    (
      (with_reducible show wpAny _ _ (exec (Stmt.For (Expr.Tuple _ _ _) _ _ [] _) _) _ _ _)
      k_dflt (refine' For_turns ?q7F ?_ ?q7c ?q7d; (case q7F => assumption); (case q7c => exact fun _ => rfl); (case q7d => exact PassesOwn.never)))
  k_with "w exec For Tuple Call cons nil" =>
    (
      (with_reducible show wpAny _ _ (exec (Stmt.For (Expr.Tuple _ _ _) _ _ [] _) _) _ _ _)
      k_dflt (refine' For_turns ?q8F ?_ ?q8c ?q8d; (case q8F => assumption); (case q8c => exact fun _ => rfl); (case q8d => exact PassesOwn.never)))
  k_with "w exec For Tuple Name cons nil" =>
    (
      (with_reducible show wpAny _ _ (exec (Stmt.For (Expr.Tuple _ _ _) _ _ [] _) _) _ _ _)
      k_dflt (refine' For_turns ?q9F ?_ ?q9c ?q9d; (case q9F => assumption); (case q9c => exact fun _ => rfl); (case q9d => exact PassesOwn.never)))
  k_with "w exec For Tuple" =>
    (
      (with_reducible show wpAny _ _ (exec (Stmt.For (Expr.Tuple _ _ _) _ _ [] _) _) _ _ _)
      k_dflt (refine' For_turns ?q10F ?_ ?q10c ?q10d; (case q10F => assumption); (case q10c => exact fun _ => rfl); (case q10d => exact PassesOwn.never)))
  k_with "w compareOp In int ref" =>
    (
      (with_reducible show wpAny _ _ (compareOp CmpOp.In (Value.int _ _) (Value.ref _)) _ _ _)
      k_dflt (refine in_r (by walk_at "my_list") (by walk_at "my_nv") ?_))
  k_with "w compareOp NotIn int ref" =>
    (
      (with_reducible show wpAny _ _ (compareOp CmpOp.NotIn (Value.int _ _) (Value.ref _)) _ _ _)
      k_dflt (refine notin_r (by walk_at "my_list") (by walk_at "my_nv") ?_))
  k_with "my_mem0" =>
    (intro p hp; k_ownIn)
  k_with "my_end0" =>
    exact ForEnd.intro () (by assumption) (by assumption) (by walk_at "my_mem0") trivial (by walk_at "my_nil") (by walk_at "my_nil") (by walk_at "my_same")
  k_with "my_steps" =>
    ((try k_fold); (repeat' (first | (k_unfold; (try dsimp only)) | walk1 | (dsimp only; walk1))); (all_goals try refine go_ ?_))
  k_with "w call builtin:sorted" =>
    (
      (with_reducible show wpAny _ _ (call (Value.builtin "sorted") [Value.ref _]) _ _ _)
      k_dflt (
        refine sorted_r (by assumption) (by assumption) (by walk_at "my_list") (by walk_at "my_nv") (by walk_at "my_small") ?_
        intro _ _ _ _ _ _ _ l1 nv' pm' sd'
        (first | (k_lt l1; (try revert l1); revert nv' pm' sd') | revert l1 nv' pm' sd'); intros; (try k_sweep)))
  k_with "w compareOp Eq ref ref" =>
    (
      (with_reducible show wpAny _ _ (compareOp CmpOp.Eq (Value.ref _) (Value.ref _)) _ _ _)
      k_dflt (refine eq_r (by walk_at "my_list") (by walk_at "my_list") (by walk_at "my_nv") (by walk_at "my_nv") (by walk_at "my_units") ?_))
  k_with "w compareOp NotEq ref ref" =>
    (
      (with_reducible show wpAny _ _ (compareOp CmpOp.NotEq (Value.ref _) (Value.ref _)) _ _ _)
      k_dflt (refine ne_r (by walk_at "my_list") (by walk_at "my_list") (by walk_at "my_nv") (by walk_at "my_nv") (by walk_at "my_units") ?_))
  k_with "my_units" =>
    first | ke_room | (unfold cLine; simp [arnd] at *; omega)
  k_with "my_mm" =>
    first | exact mem_ix 0 rfl | exact mem_ix 1 rfl | exact mem_ix 2 rfl | exact mem_ix 3 rfl | exact mem_ix 4 rfl | exact mem_ix 5 rfl | exact mem_ix 6 rfl | exact mem_ix 7 rfl | exact mem_ix 8 rfl | exact mem_ix 9 rfl | exact mem_ix 10 rfl | exact mem_ix 11 rfl | exact mem_ix 12 rfl | exact mem_ix 13 rfl | exact mem_ix 14 rfl | exact mem_ix 15 rfl | walk_at "my_mmr"
  k_with "my_room" =>
    first | assumption | exact room_d (by assumption) (by rfl) | exact room_u (by assumption) (by rfl) | omega
  k_with "my_fact" =>
    first
      | with_reducible assumption
      | with_reducible exact Mine.ia (by assumption)
      | with_reducible exact Mine.ib (by assumption)
      | with_reducible exact Mine.i2 (by assumption)
      | with_reducible exact Mine.j2 (by assumption)
      | with_reducible exact Mine.i3 (by assumption)
      | with_reducible exact Mine.j3 (by assumption)
      | with_reducible exact Mine.i4 (by assumption)
      | with_reducible exact Mine.j4 (by assumption)
      | with_reducible exact Mine.i5 (by assumption)
      | with_reducible exact Mine.j5 (by assumption)
      | with_reducible exact Mine.i6 (by assumption)
      | with_reducible exact Mine.j6 (by assumption)
  k_with "my_kne" =>
    ((try dsimp only); first
      | (refine neN ?_; walk_at "my_fact")
      | (refine Ne.symm (neN ?_); walk_at "my_fact")
      | (refine Nat.ne_of_lt ?_; walk_at "my_fact")
      | (refine Nat.ne_of_gt ?_; walk_at "my_fact"))
  trivial

local macro_rules | `(tactic| k_ne) => `(tactic| walk_at "my_kne")
theorem lay_4 : True := by
  k_with "my_zne" =>
    first | with_reducible assumption | exact zne_ps (by assumption) (by walk_at "my_mmr") | exact zne_st (by assumption) (by decide)
  k_with "my_same" =>
    (
      intro z
      intros
      (try dsimp only)
      (repeat (with_reducible refine upd_skip ?q11n ?_; (case q11n => walk_at "my_zne")))
      first
        | rfl
        | (refine setv_skip ?q11a ?q11b; (case q11a => ((try dsimp only); (repeat (refine Mine.fc ?q11m ?_; (case q11m => walk_at "my_zne"))); exact Mine.fn)); (case q11b => first | assumption | exact cont_cons (by assumption) (by assumption)))
      done)
  k_with "my_nil" =>
    first | exact Mine.fn | exact fun _ => Mine.fn | simp
  k_with "my_mmr" =>
    ((try dsimp only [List.nil_append, List.cons_append]); (repeat (first | with_reducible exact Mine.mhd | with_reducible refine Mine.mtl ?_ | with_reducible refine Mine.mar ?_ | with_reducible assumption)); done)
  k_with "w call ref" =>
    (
      (with_reducible show wpAny _ _ (call (Value.ref _) _) _ _ _)
      k_dflt (
        refine ro_useT (by walk_at "my_spT") (by assumption) (by assumption) (by assumption) (by assumption) (by assumption) (by walk_at "my_room") (by walk_at "my_room") (by walk_at "my_pre") ?_ rfl rfl
        intro _ _ _ _ _ _ l1 nv' ll' st'
        (first | (simp only [all_cons, all_nil, and_true] at l1; (try revert l1); revert nv' ll' st') | revert l1 nv' ll' st'); intros
        (try k_sweep)))
  k_with "w call ref" =>
    (
      (with_reducible show wpAny _ _ (call (Value.ref _) _) _ _ _)
      k_dflt (
        refine ro_useL (by walk_at "my_spL") (by assumption) (by assumption) (by assumption) (by assumption) (by assumption) (by walk_at "my_room") (by walk_at "my_room") (by walk_at "my_pre") ?_ rfl rfl
        intro _ _ _ _ _ _ _ l1 nv' ll' st'
        (first | (simp only [all_cons, all_nil, and_true] at l1; (try revert l1); revert nv' ll' st') | revert l1 nv' ll' st'); intros
        (try k_sweep)))
  k_with "w call ref" =>
    (
      (with_reducible show wpAny _ _ (call (Value.ref _) _) _ _ _)
      k_dflt (
        refine ro_use (by walk_at "my_spB") (by assumption) (by assumption) (by assumption) (by assumption) (by assumption) (by walk_at "my_room") (by walk_at "my_room") (by walk_at "my_pre") ?_ rfl rfl
        intro _ _ _ _ _ _ _
        (try k_sweep)))
  k_with "w call ref" =>
    (
      (with_reducible show wpAny _ _ (call (Value.ref _) _) _ _ _)
      k_dflt (
        refine ro_useE (by walk_at "my_spE") (by assumption) (by assumption) (by assumption) (by assumption) (by assumption) (by walk_at "my_room") (by walk_at "my_room") (by walk_at "my_pre") ?_ rfl rfl
        intro _ _ _ _ _
        (try k_sweep)))
  k_with "w call ref" =>
    (
      (with_reducible show wpAny _ _ (call (Value.ref _) _) _ _ _)
      k_dflt (
        refine ro_useV (by walk_at "my_spV") (by assumption) (by assumption) (by assumption) (by assumption) (by assumption) (by walk_at "my_room") (by walk_at "my_room") (by walk_at "my_pre") ?_ rfl rfl
        intro _ _ _ _ _ _
        (try k_sweep)))
  k_with "w call ref" =>
    (
      (with_reducible show wpAny _ _ (call (Value.ref _) _) _ _ _)
      k_dflt (
        refine ro_use (by walk_at "my_spP") (by assumption) (by assumption) (by assumption) (by assumption) (by assumption) (by walk_at "my_room") (by walk_at "my_room") (by walk_at "my_pre") ?_ rfl rfl
        intro _ _ _ _ _ _ _
        rcases pval_split (by assumption : PVal _ _) with ⟨_, pe2⟩ | ⟨_, _, _, pe2⟩
        all_goals subst pe2
        all_goals (try k_sweep)))
  k_with "w eval Call" =>
    (
      (with_reducible show wpAny _ _ (eval (Expr.Call (Expr.Name _ _) [Expr.Name _ _, Expr.Name _ _] [] _) _) _ _ _)
      k_dflt (
        refine' fcall2 ?q12F ?q12X ?q12T ?q12e ?q12k ?q12v ?q12u ?_ ?q12a ?q12b ?q12c ?q12d ?q12f
        (case q12F => assumption); (case q12X => assumption); (case q12T => assumption); (case q12a => rfl); (case q12b => rfl); (case q12c => rfl); (case q12d => rfl); (case q12v => rfl); (case q12u => rfl); (case q12f => decide); (case q12e => k_is); (case q12k => k_is); k_whole)
      (try dsimp only))
  k_with "w eval Call" =>
    (
      (with_reducible show wpAny _ _ (eval (Expr.Call (Expr.Name _ _) [Expr.Name _ _, Expr.Name _ _, Expr.Name _ _] [] _) _) _ _ _)
      k_dflt (
        refine' fcall3 ?q13F ?q13X ?q13T ?q13e ?q13k ?q13v ?q13u ?q13t ?_ ?q13a ?q13b ?q13c ?q13d ?q13g ?q13f
        (case q13F => assumption); (case q13X => assumption); (case q13T => assumption); (case q13a => rfl); (case q13b => rfl); (case q13c => rfl); (case q13d => rfl); (case q13g => rfl); (case q13v => rfl); (case q13u => rfl); (case q13t => rfl); (case q13f => decide); (case q13e => k_is); (case q13k => k_is); k_whole)
      (try dsimp only))
  k_with "w eval Call Attribute" =>
    (
      (with_reducible show wpAny _ _ (eval (Expr.Call (Expr.Attribute (Expr.Name _ _) _ _) [Expr.Name _ _] [] _) _) _ _ _)
      k_dflt (
        refine' mcall1 ?q14F ?q14X ?q14o ?q14I ?q14g ?q14f ?q14t ?q14l ?q14k ?q14v ?_ ?q14a ?q14b ?q14c ?q14e ?q14d
        (case q14F => assumption); (case q14X => assumption); (case q14o => rfl); (case q14a => rfl); (case q14b => rfl); (case q14I => k_inst); (case q14f => k_is); (case q14g => k_is); (case q14t => k_is); (case q14l => k_get); (case q14k => k_is); (case q14c => rfl); (case q14v => rfl); (case q14d => decide); (case q14e => rfl); k_whole)
      (try dsimp only))
  trivial

noncomputable abbrev Tree01 (w : World) := TreeAt 441 252 w.params
noncomputable abbrev RO1 (w : World) := RO (PySem.Challenge.pw_nu0071_01) w (hd.heap_1 w.params)
section
set_option maxHeartbeats 4000000 in
theorem row_spec (w : World) (t : Addr) (i : Nat) (tk : Tok) (T : List NRow) (r : NRow) (hi : T[i]? = some r) (hT : T.length < 1000) :
    RO1 w 284 [.ref t, .int i tk] 3 (fun h => Tree01 w h t T) (fun _ h' v => ∃ a, v = .ref a ∧ RowAt 252 w.params h' a r) := by
  intro A s Q E H hr hp hret
  obtain ⟨dt, rl, tk, ep1, ep2, vs, e1, e2, e3, e4, e5⟩ := hp
  obtain ⟨a, ha, hra⟩ := e5 i r hi
  have I1 : InstAt s.heap t (instObj 441 dt) 441 (some (dictOf [⟨PyData.keyHash w.params (Str.ofString "rows"), .str (Str.ofString "rows") tk, .ref rl⟩] ep1)) := ⟨e1, rfl, rfl, e2⟩
  have L1 : s.heap.IsList rl vs.toArray := ⟨_, e3, rfl, _, rfl⟩
  have hv1 : vs.length < 2 ^ 24 := by omega
  have hi1 : i < 2 ^ 24 := by have := (List.getElem?_eq_some_iff.mp hi).1; omega
  have hi2 : i < vs.length := by have := (List.getElem?_eq_some_iff.mp hi).1; omega
  walk_at "my_enter"
  walk_at "my_steps"
  exact hret _ _ _ (Fr.keep (by assumption)) ⟨a, rfl, hra.stays (Fr.keep (by assumption))⟩

theorem lay_5 : True := by
  k_with "S11 call ref" =>
    (
      (with_reducible show wpAny _ _ (call (Value.ref 284) [Value.ref _, Value.int _ _]) _ _ _)
      k_dflt (
        refine ro_use (row_spec _ _ _ _ _ _ (by assumption) (by assumption)) (by assumption) (by assumption) (by assumption) (by assumption) (by assumption) (by walk_at "my_room") (by walk_at "my_room") (TreeAt.stays (by assumption) (Fr.keep (by assumption))) ?_ rfl rfl
        rintro h' tk' _ F' N' st ⟨a', rr', d', lc', la', ln', k1', k2', k3', k4', k5', k6', k7', k8', k9', t1', t2', t3', t4', t5', ep', pv', ra1', ra2', ra3', ra4', ra5', ra6'⟩
        subst rr'
        have rI' := mkInst ra1' ra2'
        obtain ⟨lv1', li1', ln1', ll1'⟩ := ra4'.list
        obtain ⟨lv2', li2', ln2', ll2'⟩ := ra5'.list
        obtain ⟨lv3', li3', ln3', ll3'⟩ := ra6'.list))
  trivial
local macro_rules | `(tactic| walk_at "call ref") => `(tactic| k_extra "S11 call ref")


set_option maxHeartbeats 4000000 in
theorem kind_spec (w : World) (t : Addr) (i : Nat) (tk : Tok) (T : List NRow) (r : NRow) (hi : T[i]? = some r) (hT : T.length < 1000) :
    RO1 w 361 [.ref t, .int i tk] 5 (fun h => Tree01 w h t T) (fun _ _ v => ∃ tk, v = .str r.kind tk) := by
  intro A s Q E H hr hp hret
  obtain ⟨dt, rl, tk1, ep1, I1⟩ := hp.inst
  walk_at "my_enter"
  walk_at "my_steps"
  exact hret _ _ _ (Fr.keep (by assumption)) ⟨_, rfl⟩

set_option maxHeartbeats 4000000 in
theorem parent_spec (w : World) (t : Addr) (i : Nat) (tk : Tok) (T : List NRow) (r : NRow) (hi : T[i]? = some r) (hT : T.length < 1000) :
    RO1 w 396 [.ref t, .int i tk] 5 (fun h => Tree01 w h t T) (fun _ _ v => PVal r.parent v) := by
  intro A s Q E H hr hp hret
  obtain ⟨dt, rl, tk1, ep1, I1⟩ := hp.inst
  walk_at "my_enter"
  walk_at "my_steps"
  exact hret _ _ _ (Fr.keep (by assumption)) (by assumption)

set_option maxHeartbeats 4000000 in
theorem children_spec (w : World) (t : Addr) (i : Nat) (tk : Tok) (T : List NRow) (r : NRow) (hi : T[i]? = some r) (hT : T.length < 1000) (hc : r.children.length < 1000) :
    RO1 w 403 [.ref t, .int i tk] 5 (fun h => Tree01 w h t T) (fun h h' v => ListRes h h' v r.children) := by
  intro A s Q E H hr hp hret
  obtain ⟨dt, rl, tk1, ep1, I1⟩ := hp.inst
  walk_at "my_enter"
  walk_at "my_steps"
  exact hret _ _ _ (Fr.keep (by assumption)) (listRes_of (by assumption) (by k_mem) (by assumption) (by omega))

set_option maxHeartbeats 4000000 in
theorem attributes_spec (w : World) (t : Addr) (i : Nat) (tk : Tok) (T : List NRow) (r : NRow) (hi : T[i]? = some r) (hT : T.length < 1000) (hc : r.attrs.length < 1000) :
    RO1 w 410 [.ref t, .int i tk] 5 (fun h => Tree01 w h t T) (fun h h' v => ListRes h h' v r.attrs) := by
  intro A s Q E H hr hp hret
  obtain ⟨dt, rl, tk1, ep1, I1⟩ := hp.inst
  walk_at "my_enter"
  walk_at "my_steps"
  exact hret _ _ _ (Fr.keep (by assumption)) (listRes_of (by assumption) (by k_mem) (by assumption) (by omega))

set_option maxHeartbeats 4000000 in
theorem namespaces_spec (w : World) (t : Addr) (i : Nat) (tk : Tok) (T : List NRow) (r : NRow) (hi : T[i]? = some r) (hT : T.length < 1000) (hc : r.nss.length < 1000) :
    RO1 w 417 [.ref t, .int i tk] 5 (fun h => Tree01 w h t T) (fun h h' v => ListRes h h' v r.nss) := by
  intro A s Q E H hr hp hret
  obtain ⟨dt, rl, tk1, ep1, I1⟩ := hp.inst
  walk_at "my_enter"
  walk_at "my_steps"
  exact hret _ _ _ (Fr.keep (by assumption)) (listRes_of (by assumption) (by k_mem) (by assumption) (by omega))

theorem kind_spec2 (w : World) (t : Addr) (i : Nat) (tk : Tok) (T : List NRow) (W : WF T) (hi : i < T.length) :
    RO1 w 361 [.ref t, .int i tk] 5 (fun h => Tree01 w h t T) (fun _ _ v => ∃ tk, v = .str (kindOf T i) tk) := by
  have e : T[i]? = some T[i] := List.getElem?_eq_getElem hi
  rw [kind_of e]; exact kind_spec w t i tk T _ e (by have := W.small; omega)

theorem parent_some_spec (w : World) (t : Addr) (i : Nat) (tk : Tok) (T : List NRow) (W : WF T) (p : Nat) (hp : par T i = some p) :
    RO1 w 396 [.ref t, .int i tk] 5 (fun h => Tree01 w h t T) (fun _ _ v => ∃ tk, v = .int p tk) := by
  have hi : i < T.length := by
    unfold par at hp
    cases e : T[i]? with
    | none => rw [e] at hp; cases hp
    | some r => exact (List.getElem?_eq_some_iff.mp e).1
  have e : T[i]? = some T[i] := List.getElem?_eq_getElem hi
  intro A s Q E H hr hpre hret
  refine parent_spec w t i tk T _ e (by have := W.small; omega) A s Q E H hr hpre fun h' tk' r st q => hret h' tk' r st ?_
  rw [par_of e] at hp; rw [hp] at q; cases q; exact ⟨_, rfl⟩
theorem parent_none_spec (w : World) (t : Addr) (i : Nat) (tk : Tok) (T : List NRow) (W : WF T) (hi : i < T.length) (hp : par T i = none) :
    RO1 w 396 [.ref t, .int i tk] 5 (fun h => Tree01 w h t T) (fun _ _ v => v = .none) := by
  have e : T[i]? = some T[i] := List.getElem?_eq_getElem hi
  intro A s Q E H hr hpre hret
  refine parent_spec w t i tk T _ e (by have := W.small; omega) A s Q E H hr hpre fun h' tk' r st q => hret h' tk' r st ?_
  rw [par_of e] at hp; rw [hp] at q; cases q; rfl

theorem children_spec2 (w : World) (t : Addr) (i : Nat) (tk : Tok) (T : List NRow) (W : WF T) (hi : i < T.length) :
    RO1 w 403 [.ref t, .int i tk] 5 (fun h => Tree01 w h t T) (fun h h' v => ListRes h h' v (kids T i)) := by
  have e : T[i]? = some T[i] := List.getElem?_eq_getElem hi
  have z := kids_len W i
  rw [kids_of e] at z ⊢; exact children_spec w t i tk T _ e (by have := W.small; omega) (by omega)

theorem attributes_spec2 (w : World) (t : Addr) (i : Nat) (tk : Tok) (T : List NRow) (W : WF T) (hi : i < T.length) :
    RO1 w 410 [.ref t, .int i tk] 5 (fun h => Tree01 w h t T) (fun h h' v => ListRes h h' v (atts T i)) := by
  have e : T[i]? = some T[i] := List.getElem?_eq_getElem hi
  have z := atts_len W i
  rw [atts_of e] at z ⊢; exact attributes_spec w t i tk T _ e (by have := W.small; omega) (by omega)

theorem namespaces_spec2 (w : World) (t : Addr) (i : Nat) (tk : Tok) (T : List NRow) (W : WF T) (hi : i < T.length) :
    RO1 w 417 [.ref t, .int i tk] 5 (fun h => Tree01 w h t T) (fun h h' v => ListRes h h' v (nsps T i)) := by
  have e : T[i]? = some T[i] := List.getElem?_eq_getElem hi
  have z := nsps_len W i
  rw [nsps_of e] at z ⊢; exact namespaces_spec w t i tk T _ e (by have := W.small; omega) (by omega)

theorem parent_spec2 (w : World) (t : Addr) (i : Nat) (tk : Tok) (T : List NRow) (W : WF T) (hi : i < T.length) :
    RO1 w 396 [.ref t, .int i tk] 5 (fun h => Tree01 w h t T) (fun _ _ v => PVal (par T i) v) := by
  have e : T[i]? = some T[i] := List.getElem?_eq_getElem hi
  rw [par_of e]; exact parent_spec w t i tk T _ e (by have := W.small; omega)
end
theorem lay_6 : True := by
  k_with "my_pre" =>
    exact TreeAt.stays (by assumption) (Fr.keep (by assumption))
  k_with "my_lt" =>
    first | assumption | exact lt_eq (by assumption) (by assumption) | exact Nat.lt_trans (by assumption) (by assumption) | omega
  k_with "my_spV" =>
    exact kind_spec2 _ _ _ _ _ (by assumption) (by walk_at "my_lt")
  k_with "my_spB" =>
    exact parent_spec2 _ _ _ _ _ (by assumption) (by walk_at "my_lt")
  k_with "my_spE" =>
    exact parent_none_spec _ _ _ _ _ (by assumption) (by walk_at "my_lt") (by assumption)
  k_with "my_spV" =>
    exact parent_some_spec _ _ _ _ _ (by assumption) _ (by assumption)
  k_with "my_spL" =>
    exact children_spec2 _ _ _ _ _ (by assumption) (by walk_at "my_lt")
  k_with "my_spL" =>
    exact attributes_spec2 _ _ _ _ _ (by assumption) (by walk_at "my_lt")
  k_with "my_spL" =>
    exact namespaces_spec2 _ _ _ _ _ (by assumption) (by walk_at "my_lt")
  trivial

section

set_option maxHeartbeats 4000000 in
theorem beside_spec (w : World) (t : Addr) (i : Nat) (tk : Tok) (T : List NRow) (W : WF T) (hi : i < T.length) :
    RO1 w 72 [.ref t, .int i tk] 7 (fun h => Tree01 w h t T) (fun _ _ v => v = .bool (beside T i)) := by
  intro A s Q E H hr hp hret
  obtain ⟨dt, rl, tk1, ep1, I1⟩ := hp.inst
  walk_at "my_enter"
  walk_at "my_steps"
  exact hret _ _ _ (Fr.keep (by assumption)) rfl

structure St1 where
  fv : List Value
  fn : Nat
  fs : List Nat
  o : Option Nat
  v : Value
set_option maxHeartbeats 4000000 in
theorem anc_spec (w : World) (t : Addr) (i : Nat) (tk : Tok) (T : List NRow) (W : WF T) (hi : i < T.length) :
    RO1 w 86 [.ref t, .int i tk] 7 (fun h => Tree01 w h t T) (fun h h' v => ListRes h h' v (anc T i)) := by
  intro A s Q E H hr hp hret
  obtain ⟨dt, rl, tk1, ep1, I1⟩ := hp.inst
  walk_at "my_enter"
  walk_at "my_steps"
  rename_i fD _ _ _ _ pv _ hpv D2 _ _ _ _ _ _ _
  refine while_rule rfl (σ := St1) (fun c => [(fD, listOf c.fv.toArray c.fn)]) (fun c => [(Str.ofString "here", c.v)]) []
    (fun c => PVal c.o c.v ∧ NV c.fv c.fs ∧ c.fs ++ (match c.o with | none => [] | some x => x :: anc T x) = anc T i ∧ ∀ x, c.o = some x → x < T.length) (fun c => match c.o with | none => 0 | some x => x + 1)
    ⟨[], 0, [], par T i, pv⟩ [] (by assumption) (by assumption) ?_ ?_ ?_ ?_ ?_
  · walk_at "my_mem"
  · simp
  · walk_at "my_ps"
  · refine ⟨hpv, .nil, ?_, ?_⟩
    · cases hp : par T i with
      | none => simp [anc_none hp]
      | some q => simp [anc_some W hp]
    · intro x hx
      have := par_lt W hx; omega
  · rintro ⟨fv, fn, fs, o, v⟩ u h tk ⟨hv, nf, he, hb⟩ F N _
    dsimp only at F N hv nf he hb ⊢
    dsimp only [List.cons_append, List.nil_append] at N
    have hz := anc_len W i
    have hT := W.small
    have nl := nf.len
    cases hv with
    | none =>
      walk_at "my_steps"
      all_goals first | (exfalso; simp at *; done) | skip
      refine hret _ _ _ (Fr.keep (by assumption)) (listRes_of (by assumption) (by k_mem) ?_ (by omega))
      rw [← he]; simpa using nf
    | some x tx =>
      have hx := hb x rfl
      have hz2 : fs.length < 60 := by rw [← he] at hz; simp only [List.length_append] at hz; omega
      walk_at "my_steps"
      all_goals first | (exfalso; simp at *; done) | skip
      rename_i pv' _ hpv' _ _ _
      refine' WhileEnd.intro ⟨_, _, fs ++ [x], par T x, pv'⟩ ?F ?N ?mem ?J ?mu ?sep ?ps ?m
      (case F => assumption)
      (case N => assumption)
      (case mem => walk_at "my_mem")
      (case sep => simp)
      (case ps => walk_at "my_ps")
      (case m => walk_at "my_same")
      (case J =>
        refine ⟨hpv', nf.snoc _ _, ?_, ?_⟩
        · rw [← he]
          cases hp : par T x with
          | none => simp [anc_none hp]
          | some q => simp [anc_some W hp]
        · intro y hy
          have := par_lt W hy; omega)
      (case mu =>
        cases hp : par T x with
        | none => simp
        | some q => have := par_lt W hp; simp; omega)
structure St2 where
  fv : List Value
  lv : List Value
  fn : Nat
  ln : Nat
  fs : List Nat
  ls : List Nat
set_option maxHeartbeats 4000000 in
theorem desc_spec (w : World) (t : Addr) (i : Nat) (tk : Tok) (T : List NRow) (W : WF T) (hi : i < T.length) :
    RO1 w 79 [.ref t, .int i tk] 8 (fun h => Tree01 w h t T) (fun h h' v => ListRes h h' v (desc T i)) := by
  intro A s Q E H hr hp hret
  obtain ⟨dt, rl, tk1, ep1, I1⟩ := hp.inst
  have hT := W.small
  have hlen := kids_len W i
  walk_at "my_enter"
  walk_at "my_steps"
  rename_i fD _ _ _ _ ld0 vs0 _ nv0 _ _ _ D2 _ _ _ lD _ _ D3 _ _ _ _ _ _ _
  have e0 : (desc T i) = (kids T i).flatMap fun c => c :: desc T c := desc_eq W i
  refine while_rule rfl (σ := St2) (fun c => [(fD, listOf c.fv.toArray c.fn), (lD, listOf c.lv.toArray c.ln)]) (fun _ => []) [Str.ofString "here"]
    (fun c => NV c.fv c.fs ∧ NV c.lv c.ls ∧ c.fs ++ (c.ls.reverse.flatMap fun x => x :: desc T x) = desc T i ∧ ∀ x ∈ c.ls, x < T.length) (fun c => (c.ls.reverse.flatMap fun x => x :: desc T x).length)
    ⟨[], vs0.reverse, 0, 0, [], (kids T i).reverse⟩ [] (by assumption) (by assumption) ?_ ?_ ?_ ?_ ?_
  · simp
  · simp
  · simp
  · refine ⟨.nil, nv0.rev, ?_, ?_⟩
    · rw [e0]; simp
    · intro x hx
      exact (kids_lt W (i := i) (by simpa using hx)).2
  · rintro ⟨fv, lv, fn, ln, fs, ls⟩ u h tk ⟨nf, nl, he, hb⟩ F N _
    dsimp only at F N nf nl he hb ⊢
    dsimp only [List.cons_append, List.nil_append] at N
    try dsimp only at N
    rcases nil_or_snoc ls with rfl | ⟨ls', x, rfl⟩
    · cases nl
      walk_at "my_steps"
      all_goals first | (exfalso; simp at *; done) | skip
      refine hret _ _ _ (Fr.keep (by assumption)) (listRes_of (by assumption) (by k_mem) ?_ (by have := desc_len W i; omega))
      rw [← he]; simpa using nf
    · obtain ⟨lv', tx, rfl, nl'⟩ := NV.unsnoc nl
      have hxb := hb x (by simp)
      have b1 := desc_len W i
      have he' : fs ++ (x :: (desc T x ++ ls'.reverse.flatMap fun y => y :: desc T y)) = desc T i := by
        rw [← he]; simp
      have b0 : ls'.length ≤ (ls'.reverse.flatMap fun y => y :: desc T y).length := len_le_flatMap ls'
      have b2 : fs.length + ls'.length < 1000 := by
        rw [← he'] at b1
        simp only [List.length_append, List.length_cons] at b1
        omega
      have b3 := nf.len
      have b4 := nl'.len
      have b5 := kids_len W x
      have e1 : desc T x = (kids T x).flatMap fun c => c :: desc T c := desc_eq W x
      walk_at "my_steps"
      all_goals first | (exfalso; simp at *; done) | skip
      refine' WhileEnd.intro ⟨_, _, _, _, fs ++ [x], ls' ++ (kids T x).reverse⟩ ?F ?N ?mem ?J ?mu ?sep ?ps ?m
      (case F => assumption)
      (case N => assumption)
      (case mem => walk_at "my_mem")
      (case sep => simp)
      (case ps => simp)
      (case m => walk_at "my_same")
      (case J =>
        refine ⟨nf.snoc _ _, nl'.app (NV.rev (by assumption)), ?_, ?_⟩
        · rw [← he', e1]; simp
        · intro y hy
          rcases List.mem_append.mp hy with hy | hy
          · exact hb y (List.mem_append_left _ hy)
          · exact (kids_lt W (i := x) (by simpa using hy)).2)
      (case mu => simp [e1])
end
theorem lay_7 : True := by
  k_with "my_spE" =>
    exact beside_spec _ _ _ _ _ (by assumption) (by walk_at "my_lt")
  k_with "my_spL" =>
    exact anc_spec _ _ _ _ _ (by assumption) (by walk_at "my_lt")
  k_with "my_spL" =>
    exact desc_spec _ _ _ _ _ (by assumption) (by walk_at "my_lt")
  trivial


section
local macro_rules | `(tactic| walk_at "my_none") => `(tactic| skip)

set_option maxHeartbeats 4000000 in
theorem sibA_spec (w : World) (t : Addr) (i : Nat) (tk : Tok) (T : List NRow) (W : WF T) (hi : i < T.length) :
    RO1 w 93 [.ref t, .int i tk] 9 (fun h => Tree01 w h t T) (fun h h' v => ListRes h h' v (sibA T i)) := by
  intro A s Q E H hr hp hret
  obtain ⟨dt, rl, tk1, ep1, I1⟩ := hp.inst
  cases hpi : par T i with
  | none =>
    have e : sibA T i = [] := by unfold sibA; rw [hpi]
    walk_at "my_enter"
    walk_at "my_steps"
    exact hret _ _ _ (Fr.keep (by assumption)) (listRes_of (by assumption) (by k_mem) (by rw [e]; exact NV.nil) (by rw [e]; simp))
  | some q =>
    have hq : q < T.length := by have := par_lt W hpi; omega
    have hkl := kids_len W q
    cases hb : beside T i with
    | true =>
      have e : sibA T i = [] := by unfold sibA; rw [hpi]; simp [hb]
      walk_at "my_enter"
      walk_at "my_steps"
      all_goals first | (exfalso; simp_all; done) | skip
      exact hret _ _ _ (Fr.keep (by assumption)) (listRes_of (by assumption) (by k_mem) (by rw [e]; exact NV.nil) (by rw [e]; simp))
    | false =>
      have e : sibA T i = ((kids T q).take ((kids T q).idxOf i)).reverse := by unfold sibA; rw [hpi]; simp [hb]
      have hm := mem_kids W hpi hb
      walk_at "my_enter"
      walk_at "my_steps"
      all_goals first | (exfalso; simp_all; done) | skip
      exact hret _ _ _ (Fr.keep (by assumption)) (listRes_of (by assumption) (by k_mem) (by rw [e]; exact NV.rev (NV.take _ (by assumption))) (by rw [e]; simp; omega))
set_option maxHeartbeats 4000000 in
theorem sibB_spec (w : World) (t : Addr) (i : Nat) (tk : Tok) (T : List NRow) (W : WF T) (hi : i < T.length) :
    RO1 w 100 [.ref t, .int i tk] 9 (fun h => Tree01 w h t T) (fun h h' v => ListRes h h' v (sibB T i)) := by
  intro A s Q E H hr hp hret
  obtain ⟨dt, rl, tk1, ep1, I1⟩ := hp.inst
  cases hpi : par T i with
  | none =>
    have e : sibB T i = [] := by unfold sibB; rw [hpi]
    walk_at "my_enter"
    walk_at "my_steps"
    exact hret _ _ _ (Fr.keep (by assumption)) (listRes_of (by assumption) (by k_mem) (by rw [e]; exact NV.nil) (by rw [e]; simp))
  | some q =>
    have hq : q < T.length := by have := par_lt W hpi; omega
    have hkl := kids_len W q
    cases hb : beside T i with
    | true =>
      have e : sibB T i = [] := by unfold sibB; rw [hpi]; simp [hb]
      walk_at "my_enter"
      walk_at "my_steps"
      all_goals first | (exfalso; simp_all; done) | skip
      exact hret _ _ _ (Fr.keep (by assumption)) (listRes_of (by assumption) (by k_mem) (by rw [e]; exact NV.nil) (by rw [e]; simp))
    | false =>
      have e : sibB T i = (kids T q).drop ((kids T q).idxOf i + 1) := by unfold sibB; rw [hpi]; simp [hb]
      have hm := mem_kids W hpi hb
      walk_at "my_enter"
      walk_at "my_steps"
      all_goals first | (exfalso; simp_all; done) | skip
      exact hret _ _ _ (Fr.keep (by assumption)) (listRes_of (by assumption) (by k_mem) (by rw [e]; exact NV.drop _ (by assumption)) (by rw [e]; simp; omega))
end
theorem lay_8 : True := by
  k_with "my_spL" =>
    exact sibA_spec _ _ _ _ _ (by assumption) (by walk_at "my_lt")
  k_with "my_spL" =>
    exact sibB_spec _ _ _ _ _ (by assumption) (by walk_at "my_lt")
  trivial

section

structure StF where
  fv : List Value
  fn : Nat
  fs : List Nat
set_option maxHeartbeats 4000000 in
theorem wd_spec (w : World) (t l : Addr) (T : List NRow) (W : WF T) (ns : List Nat) (hb : ∀ x ∈ ns, x < T.length) (hz : (withDesc T ns).length < 4096) :
    RO1 w 107 [.ref t, .ref l] 10 (fun h => Tree01 w h t T ∧ NList h l ns) (fun h h' v => ListRes h h' v (withDesc T ns)) := by
  intro A s Q E H hr hp hret
  obtain ⟨hp, vs, hl, hv⟩ := hp
  obtain ⟨dt, rl, tk1, ep1, I1⟩ := hp.inst
  walk_at "my_enter"
  walk_at "my_steps"
  rename_i fD _ _ _ F N
  have hne := base_ne N hl
  simp only [all_cons, all_nil, and_true] at hne
  refine iter_list rfl (σ := StF) (fun c => [(fD, listOf c.fv.toArray c.fn)]) (fun _ => []) [] (fun k c => NV c.fv c.fs ∧ c.fs = withDesc T (ns.take k)) ⟨[], 0, []⟩ []
    rfl (list_keep hl F) (base_ne_L F hl) F N ?_ ?_ ?_ ?_ ?_ ?_ ?_
  · walk_at "my_mem"
  · simp
  · intro c; simp [hne]
  · simp
  · exact ⟨.nil, rfl⟩
  · rintro k v ⟨fv, fn, fs⟩ u h tk own hk hkl ⟨nf, he⟩ F N hsep
    dsimp only at F N nf he hsep ⊢
    dsimp only [List.cons_append, List.nil_append] at N hsep
    simp only [all_cons, all_nil, and_true] at hsep
    obtain ⟨n, tn, hn, rfl⟩ := hv.get hk
    have hnb := hb n (List.mem_of_getElem? hn)
    have hz1 : fs.length < 4096 := by rw [he]; exact Nat.lt_of_le_of_lt (flatMap_take_le ns k) hz
    have hz2 := nf.len
    walk_at "my_steps"
    have he2 : fs ++ (n :: desc T n) = withDesc T (ns.take (k + 1)) := by rw [he]; exact (flatMap_take_succ hn).symm
    refine' ForEnd.intro ⟨_, _, _⟩ ?F ?N ?mem ⟨?J, he2⟩ ?sep ?ps ?m
    walk_at "my_forend"
    (case J => simpa using (nf.snoc _ _).app (by assumption))
  · rintro ⟨fv, fn, fs⟩ u h tk ⟨nf, he⟩ F N hsep
    dsimp only at F N nf he hsep ⊢
    walk_at "my_steps"
    refine hret _ _ _ (Fr.keep (by assumption)) (listRes_of (by assumption) (by k_mem) ?_ hz)
    rw [hv.len, List.take_length] at he
    rw [← he]; exact nf
end
theorem lay_9 : True := by
  k_with "w call ref" =>
    (
      (with_reducible show wpAny _ _ (call (Value.ref 107) [Value.ref _, Value.ref _]) _ _ _)
      k_dflt (
        refine' ro_useL (wd_spec _ _ _ _ ?q15W _ ?q15hb ?q15hz) ?q15a ?q15b ?q15c ?q15d ?q15e ?q15f ?q15g ?q15h ?_ ?q15i ?q15j
        (case q15W => assumption)
        (case q15a => assumption)
        (case q15b => assumption)
        (case q15c => assumption)
        (case q15d => assumption)
        (case q15e => assumption)
        (case q15f => walk_at "my_room")
        (case q15g => walk_at "my_room")
        (case q15h => exact ⟨by walk_at "my_pre", NList.mk (by walk_at "my_list") (by walk_at "my_nv")⟩)
        (case q15hb => walk_at "my_all")
        (case q15hz => walk_at "my_wdlen")
        (case q15i => exact rfl)
        (case q15j => exact rfl)
        intro _ _ _ _ _ _ _ l1 nv' ll' st'
        (first | (simp only [all_cons, all_nil, and_true] at l1; (try revert l1); revert nv' ll' st') | revert l1 nv' ll' st'); intros
        (try k_sweep)))
  trivial

section
local macro_rules | `(tactic| walk_at "my_none") => `(tactic| skip)
theorem lay_10 : True := by
  k_with "S52 my_all" =>
    exact fun _ hx => sibB_sub (by assumption) hx
  k_with "S53 my_wdlen" =>
    exact Nat.lt_trans (wdB_len (by assumption) _) (by decide)
  trivial
local macro_rules | `(tactic| walk_at "my_all") => `(tactic| k_extra "S52 my_all")
local macro_rules | `(tactic| walk_at "my_wdlen") => `(tactic| k_extra "S53 my_wdlen")

inductive FollMid (g : Heap) (L t : Addr) (T : List NRow) (i : Nat) (s s' : Shared) : Prop
  | ik (q : Nat) (tq : Tok) (h' : Heap) (tk' : Nat) (fD : Addr) (vs : List Value) (fs0 : List Nat) (c : Nat) (e : s' = { s with heap := h', toks := tk' }) (hq : q < T.length) (hp : foll T i = fs0 ++ follFrom T q) (hz : fs0.length < 60) (hv : NV vs fs0)
    (F : Fr g L h' (fun y => if y = Str.ofString "found" then some (.ref fD) else if y = Str.ofString "node" then some (.int (q : Nat) tq) else if y = Str.ofString "tree" then some (.ref t) else none)) (N : News g L h' [(fD, listOf vs.toArray c)]) : FollMid g L t T i s s'
theorem over2 {a b c : Str} {u u' v x x' : Value} (y : Str) : (if y = c then some x' else if y = a then some u' else if y = c then some x else List.lookup y [(a, u), (b, v)]) = if y = c then some x' else if y = a then some u' else if y = b then some v else none := by
  rw [lookup_two]; by_cases h : y = c <;> by_cases h2 : y = a <;> simp [h, h2]
set_option maxHeartbeats 4000000 in
theorem foll_spec (w : World) (t : Addr) (i : Nat) (tk : Tok) (T : List NRow) (W : WF T) (hi : i < T.length) :
    RO1 w 114 [.ref t, .int i tk] 12 (fun h => Tree01 w h t T) (fun h h' v => ListRes h h' v (foll T i)) := by
  intro A s Q E H hr hp hret
  obtain ⟨dt, rl, tk1, ep1, I1⟩ := hp.inst
  have hT := W.small
  walk_at "my_enter"
  rename_i L h₁ tk₁ B X TT F N hd hu
  refine if_cut2 (FollMid s.heap L t T i s) ?_ ?_
  · cases hb : beside T i with
    | false =>
      have e0 : foll T i = [] ++ follFrom T i := by unfold foll; rw [hb]; simp
      walk_at "my_steps"
      all_goals first | (exfalso; simp_all; done) | exact ⟨i, tk, _, _, _, [], [], _, rfl, hi, e0, by decide, .nil, fr_ext (by assumption) (fun y => by rw [lookup_two]), by assumption⟩
    | true =>
      obtain ⟨q, hq⟩ := beside_par W hi hb
      have e0 : foll T i = desc T q ++ follFrom T q := by unfold foll; rw [hb, hq]; simp
      have hqi := par_lt W hq
      have hdl := desc_len W q
      walk_at "my_steps"
      all_goals first | (exfalso; simp_all; done) | exact ⟨q, _, _, _, _, _, _, _, rfl, Nat.lt_trans hqi hi, e0, hdl, by assumption, fr_ext (by assumption) (fun y => over2 y), News.sub (by assumption) (fc mhd fn)⟩
  · clear F N
    rintro s' ⟨q, tq, h', tk', fD, fv0, fs0, c0, rfl, hqT, e0, hz0, nv0, F, N⟩
    have hal := anc_len W q
    walk_at "my_steps"
    rename_i D _ F N nvD _
    have hlt : ∀ n ∈ [q] ++ anc T q, n < T.length := by
      intro n hn
      rcases List.mem_append.mp hn with hn | hn
      · have := List.mem_singleton.mp hn; omega
      · have := anc_lt W q n hn; omega
    have hfl := follFrom_len W q
    refine iter_list rfl (σ := StF) (fun c => [(fD, listOf c.fv.toArray c.fn)]) (fun _ => []) [] (fun k c => NV c.fv c.fs ∧ c.fs = fs0 ++ (([q] ++ anc T q).take k).flatMap fun h => withDesc T (sibB T h)) ⟨fv0, c0, fs0⟩ []
      rfl (by walk_at "my_list") (N _ (by k_mem)).2.1 F N (by walk_at "my_mem") (by simp) (by intro c; walk_at "my_sep") (by simp) ⟨nv0, by simp⟩ ?_ ?_
    · rintro k v ⟨fv, fn, fs⟩ u h tk own hk hkl ⟨nf, he⟩ F N hsep
      dsimp only at F N nf he hsep ⊢
      dsimp only [List.cons_append, List.nil_append] at N hsep
      simp only [all_cons, all_nil, and_true] at hsep
      obtain ⟨n, tn, hn, rfl⟩ := nvD.get hk
      have hnb := hlt n (List.mem_of_getElem? hn)
      have hz1 : fs.length < 200 := by
        have h1 := flatMap_take_le (g := fun h => withDesc T (sibB T h)) ([q] ++ anc T q) k
        have h2 : (([q] ++ anc T q).flatMap fun h => withDesc T (sibB T h)) = follFrom T q := rfl
        rw [h2] at h1
        rw [he, List.length_append]; (try simp only [List.length_nil]); omega
      have hz2 := nf.len
      walk_at "my_steps"
      have he2 : fs ++ withDesc T (sibB T n) = fs0 ++ (([q] ++ anc T q).take (k + 1)).flatMap (fun h => withDesc T (sibB T h)) := by
        rw [he, flatMap_take_succ hn, List.append_assoc]
      refine ForEnd.intro ⟨_, _, _⟩ (by assumption) (by assumption) (by walk_at "my_mem") ⟨?_, he2⟩ (by walk_at "my_sep") (by walk_at "my_ps") (by walk_at "my_same")
      exact nf.app (by assumption)
    · rintro ⟨fv, fn, fs⟩ u h tk ⟨nf, he⟩ F N hsep
      dsimp only at F N nf he hsep ⊢
      walk_at "my_steps"
      refine hret _ _ _ (Fr.keep (by assumption)) (listRes_of (by assumption) (by k_mem) ?_ ?_)
      · rw [nvD.len, List.take_length] at he
        rw [e0, show follFrom T q = (([q] ++ anc T q).flatMap fun h => withDesc T (sibB T h)) from rfl, ← he]; exact nf
      · rw [e0, List.length_append]; (try simp only [List.length_nil]); omega
end
section
theorem lay_11 : True := by
  k_with "S64 my_all" =>
    (intro x hx; simp only [List.mem_singleton] at hx; omega)
  k_with "S65 my_wdlen" =>
    (simp only [withDesc, List.flatMap_cons, List.flatMap_nil, List.append_nil, List.length_cons]; omega)
  k_with "S66 my_small" =>
    (simp only [withDesc, List.flatMap_cons, List.flatMap_nil, List.append_nil, List.length_cons, List.length_reverse] at *; omega)
  trivial
local macro_rules | `(tactic| walk_at "my_all") => `(tactic| k_extra "S64 my_all")
local macro_rules | `(tactic| walk_at "my_wdlen") => `(tactic| k_extra "S65 my_wdlen")
local macro_rules | `(tactic| walk_at "my_small") => `(tactic| k_extra "S66 my_small")

inductive PrecMid (g : Heap) (L t : Addr) (T : List NRow) (i : Nat) (s s' : Shared) : Prop
  | ik (q : Nat) (tq : Tok) (h' : Heap) (tk' : Nat) (e : s' = { s with heap := h', toks := tk' }) (hq : q < T.length) (hp : prec T i = precFrom T q)
    (F : Fr g L h' (fun y => if y = Str.ofString "node" then some (.int (q : Nat) tq) else if y = Str.ofString "tree" then some (.ref t) else none)) (N : News g L h' []) : PrecMid g L t T i s s'
set_option maxHeartbeats 4000000 in
theorem prec_spec (w : World) (t : Addr) (i : Nat) (tk : Tok) (T : List NRow) (W : WF T) (hi : i < T.length) :
    RO1 w 121 [.ref t, .int i tk] 12 (fun h => Tree01 w h t T) (fun h h' v => ListRes h h' v (prec T i)) := by
  intro A s Q E H hr hp hret
  obtain ⟨dt, rl, tk1, ep1, I1⟩ := hp.inst
  have hT := W.small
  walk_at "my_enter"
  rename_i L h₁ tk₁ B X TT F N hd hu
  refine if_cut (PrecMid s.heap L t T i s) ?_ ?_
  · cases hb : beside T i with
    | false =>
      have e0 : prec T i = precFrom T i := by unfold prec; rw [hb]; simp
      walk_at "my_steps"
      all_goals first | (exfalso; simp_all; done) | exact ⟨i, tk, _, _, rfl, hi, e0, fr_ext (by assumption) (fun y => lookup_two y), by assumption⟩
    | true =>
      obtain ⟨q, hq⟩ := beside_par W hi hb
      have e0 : prec T i = precFrom T q := by unfold prec; rw [hb, hq]; simp
      have hqi := par_lt W hq
      walk_at "my_steps"
      all_goals first | (exfalso; simp_all; done) | exact ⟨q, _, _, _, rfl, Nat.lt_trans hqi hi, e0, fr_ext (by assumption) (fun y => lookup_over y), by assumption⟩
  · clear F N
    rintro s' ⟨q, tq, h', tk', rfl, hqT, e0, F, N⟩
    have hal := anc_len W q
    walk_at "my_steps"
    rename_i fD _ _ _ _ _ _ _ _ _ _ _ _ _ _ _ D _ F N nvD _
    have hlt : ∀ n ∈ [q] ++ anc T q, n < T.length := by
      intro n hn
      rcases List.mem_append.mp hn with hn | hn
      · have := List.mem_singleton.mp hn; omega
      · have := anc_lt W q n hn; omega
    have hfl := precFrom_len W q
    refine iter_list rfl (σ := StF) (fun c => [(fD, listOf c.fv.toArray c.fn)]) (fun _ => []) [Str.ofString "sibling"] (fun k c => NV c.fv c.fs ∧ c.fs = (([q] ++ anc T q).take k).flatMap (precAt T)) ⟨_, _, []⟩ []
      rfl (by walk_at "my_list") (N _ (by k_mem)).2.1 F N (by walk_at "my_mem") (by simp) (by intro c; walk_at "my_sep") (by simp) ⟨by walk_at "my_nv", by simp⟩ ?_ ?_
    · rintro k v ⟨fv, fn, fs⟩ u h tk own hk hkl ⟨nf, he⟩ F N hsep
      dsimp only at F N nf he hsep ⊢
      dsimp only [List.cons_append, List.nil_append] at N hsep
      simp only [all_cons, all_nil, and_true] at hsep
      obtain ⟨n, tn, hn, rfl⟩ := nvD.get hk
      have hnb := hlt n (List.mem_of_getElem? hn)
      have hz0 : fs.length + (precAt T n).length < 60 := by
        have h1 := flatMap_take_le (g := precAt T) ([q] ++ anc T q) (k + 1)
        have h2 : (([q] ++ anc T q).flatMap (precAt T)) = precFrom T q := rfl
        rw [h2, flatMap_take_succ hn, List.length_append, ← he] at h1
        omega
      walk_at "my_steps"
      rename_i sD vsD _ F N nvS _ _ _
      refine iter_list rfl (σ := StF) (fun c => [(fD, listOf c.fv.toArray c.fn)]) (fun _ => []) [] (fun k2 c => NV c.fv c.fs ∧ c.fs = fs ++ ((sibA T n).take k2).flatMap fun s => (withDesc T [s]).reverse) ⟨fv, _, fs⟩ own
        rfl (by walk_at "my_list") (N _ (by k_mem)).2.1 F N (by walk_at "my_mem") (by walk_at "my_sep") (by intro c; walk_at "my_sep") (by simp) ⟨nf, by simp⟩ ?_ ?_
      · rintro k2 v2 ⟨fv2, fn2, fs2⟩ u2 h2 tk2 own2 hk2 hkl2 ⟨nf2, he2⟩ F N hsep2
        dsimp only at F N nf2 he2 hsep2 ⊢
        dsimp only [List.cons_append, List.nil_append] at N hsep2
        simp only [all_cons, all_nil, and_true] at hsep2
        obtain ⟨s2, ts2, hs2, rfl⟩ := nvS.get hk2
        have hsb := sibA_sub W (List.mem_of_getElem? hs2)
        have hd2 := desc_len W s2
        have hz1 : fs2.length < 60 := by
          have h1 := flatMap_take_le (g := fun s => (withDesc T [s]).reverse) (sibA T n) k2
          have h3 : ((sibA T n).flatMap fun s => (withDesc T [s]).reverse) = precAt T n := rfl
          rw [h3] at h1
          rw [he2, List.length_append]; omega
        have hz2 := nf2.len
        walk_at "my_steps"
        have he3 : fs2 ++ (withDesc T [s2]).reverse = fs ++ ((sibA T n).take (k2 + 1)).flatMap (fun s => (withDesc T [s]).reverse) := by
          rw [he2, flatMap_take_succ hs2, List.append_assoc]
        refine ForEnd.intro ⟨_, _, _⟩ (by assumption) (by assumption) (by walk_at "my_mem") ⟨?_, he3⟩ (by walk_at "my_sep") (by walk_at "my_ps") (by walk_at "my_same")
        exact nf2.app (NV.rev (by assumption))
      · rintro ⟨fv2, fn2, fs2⟩ u2 h2 tk2 ⟨nf2, he2⟩ F N hsep2
        dsimp only at F N nf2 he2 hsep2 ⊢
        dsimp only [List.cons_append, List.nil_append] at N
        walk_at "my_steps"
        have he3 : fs2 = (([q] ++ anc T q).take (k + 1)).flatMap (precAt T) := by
          rw [nvS.len, List.take_length] at he2
          rw [he2, he, flatMap_take_succ hn]; rfl
        refine ForEnd.intro ⟨_, _, _⟩ (by assumption) (by assumption) (by walk_at "my_mem") ⟨nf2, he3⟩ (by walk_at "my_sep") (by walk_at "my_ps") (by walk_at "my_same")
    · rintro ⟨fv, fn, fs⟩ u h tk ⟨nf, he⟩ F N hsep
      dsimp only at F N nf he hsep ⊢
      walk_at "my_steps"
      refine hret _ _ _ (Fr.keep (by assumption)) (listRes_of (by assumption) (by k_mem) ?_ ?_)
      · rw [nvD.len, List.take_length] at he
        rw [e0, show precFrom T q = (([q] ++ anc T q).flatMap (precAt T)) from rfl, ← he]; exact nf
      · rw [e0]; omega
end
theorem lay_12 : True := by
  k_with "my_spL" =>
    exact foll_spec _ _ _ _ _ (by assumption) (by walk_at "my_lt")
  k_with "my_spL" =>
    exact prec_spec _ _ _ _ _ (by assumption) (by walk_at "my_lt")
  trivial


section
theorem lay_13 : True := by
  k_with "S77 my_spP" =>
    exact parent_spec2 _ _ _ _ _ (by assumption) (by walk_at "my_lt")
  trivial
local macro_rules | `(tactic| walk_at "my_spP") => `(tactic| k_extra "S77 my_spP")


theorem short_ok {T : List NRow} {i : Nat} {name lit : Str} {h h' : Heap} {v : Value} {ns : List Nat} (he : (name == lit) = true) (hm : lit ∈ shortNames) (ex : axisL T i lit = ns) (R : ListRes h h' v ns) :
    if name ∈ shortNames then ListRes h h' v (axisL T i name) else v = .none := by
  have e := eq_of_beq he
  subst e
  rw [if_pos hm, ex]; exact R
theorem lay_14 : True := by
  k_with "S78 my_ax" =>
    first | exact axisL_child _ _ | exact axisL_self _ _ | exact axisL_att_no (by assumption) (by assumption) | exact axisL_attribute _ _ | exact axisL_following_sibling _ _ | exact axisL_preceding_sibling _ _ | exact axisL_par_none (by assumption) | exact axisL_par_some (by assumption) | exact axisL_descendant _ _ | exact (axisL_descendant_or_self _ _).trans (wd_one _ _).symm | exact axisL_descendant_or_self _ _ | exact axisL_ancestor _ _ | exact axisL_ancestor_or_self _ _ | exact axisL_following _ _ | exact axisL_preceding _ _
  k_with "S79 my_axlen" =>
    first | exact Nat.lt_trans (kids_len (by assumption) _) (by decide) | exact Nat.lt_trans (desc_len (by assumption) _) (by decide) | exact Nat.lt_trans (foll_len (by assumption) _) (by decide) | exact Nat.lt_trans (prec_len (by assumption) _) (by decide) | exact Nat.lt_of_le_of_lt (anc_len (by assumption) _) (by omega) | exact Nat.lt_trans (atts_len (by assumption) _) (by decide) | exact Nat.lt_trans (sibA_len (by assumption) _) (by decide) | exact Nat.lt_trans (sibB_len (by assumption) _) (by decide) | (simp only [withDesc, List.flatMap_cons, List.flatMap_nil, List.append_nil, List.nil_append, List.cons_append, List.length_cons]; omega) | simp
  trivial
local macro_rules | `(tactic| walk_at "my_ax") => `(tactic| k_extra "S78 my_ax")
local macro_rules | `(tactic| walk_at "my_axlen") => `(tactic| k_extra "S79 my_axlen")

set_option maxHeartbeats 4000000 in
theorem short_spec (w : World) (t : Addr) (i : Nat) (tk tn : Tok) (name : Str) (T : List NRow) (W : WF T) (hi : i < T.length) (hn : name ∈ shortNames ++ longNames) :
    RO1 w 133 [.ref t, .int i tk, .str name tn] 14 (fun h => Tree01 w h t T) (fun h h' v => if name ∈ shortNames then ListRes h h' v (axisL T i name) else v = .none) := by
  intro A s Q E H hr hp hret
  obtain ⟨dt, rl, tk1, ep1, I1⟩ := hp.inst
  have hT := W.small
  walk_at "my_enter"
  walk_at "my_steps"
  all_goals first
    | exact hret _ _ _ (Fr.keep (by assumption)) (short_ok (by assumption) (by decide) (by walk_at "my_ax") (listRes_of (by assumption) (by k_mem) (by walk_at "my_nv") (by walk_at "my_axlen")))
    | (refine hret _ _ _ (Fr.keep (by assumption)) ?_
       show (if name ∈ shortNames then _ else _)
       rw [if_neg (by simp only [shortNames, List.mem_cons, List.not_mem_nil, or_false]; simp_all)])
    | (exfalso; have e' := eq_of_beq (by assumption : (name == _) = true); rw [e'] at hn; exact absurd hn (by decide))
theorem short_yes (w : World) (t : Addr) (i : Nat) (tk tn : Tok) (name : Str) (T : List NRow) (W : WF T) (hi : i < T.length) (hn : name ∈ shortNames ++ longNames) (hs : name ∈ shortNames) :
    RO1 w 133 [.ref t, .int i tk, .str name tn] 14 (fun h => Tree01 w h t T) (fun h h' v => ListRes h h' v (axisL T i name)) := by
  have := short_spec w t i tk tn name T W hi hn
  simp only [if_pos hs] at this; exact this
theorem short_no (w : World) (t : Addr) (i : Nat) (tk tn : Tok) (name : Str) (T : List NRow) (W : WF T) (hi : i < T.length) (hn : name ∈ shortNames ++ longNames) (hs : ¬ name ∈ shortNames) :
    RO1 w 133 [.ref t, .int i tk, .str name tn] 14 (fun h => Tree01 w h t T) (fun h h' v => v = .none) := by
  have := short_spec w t i tk tn name T W hi hn
  simp only [if_neg hs] at this; exact this
theorem long_ok {T : List NRow} {i : Nat} {name lit : Str} {h h' : Heap} {v : Value} {ns : List Nat} (he : (name == lit) = true) (ex : axisL T i lit = ns) (R : ListRes h h' v ns) : ListRes h h' v (axisL T i name) := by
  have e := eq_of_beq he
  subst e
  rw [ex]; exact R
theorem lay_15 : True := by
  k_with "S710 my_wdlen" =>
    (rw [wd_one]; simp only [List.length_cons]; omega)
  k_with "S711 my_all" =>
    (intro x hx; simp only [List.mem_singleton] at hx; omega)
  k_with "S712 my_spE" =>
    exact short_no _ _ _ _ _ _ _ (by assumption) (by assumption) (by assumption) (by assumption)
  k_with "S713 my_spL" =>
    exact short_yes _ _ _ _ _ _ _ (by assumption) (by assumption) (by assumption) (by assumption)
  trivial
local macro_rules | `(tactic| walk_at "my_wdlen") => `(tactic| k_extra "S710 my_wdlen")
local macro_rules | `(tactic| walk_at "my_all") => `(tactic| k_extra "S711 my_all")
local macro_rules | `(tactic| walk_at "my_spE") => `(tactic| k_extra "S712 my_spE")
local macro_rules | `(tactic| walk_at "my_spL") => `(tactic| k_extra "S713 my_spL")

set_option maxHeartbeats 4000000 in
theorem axis_spec (w : World) (t : Addr) (i : Nat) (tk tn : Tok) (name : Str) (T : List NRow) (W : WF T) (hi : i < T.length) (hn : name ∈ shortNames ++ longNames) :
    RO1 w 140 [.ref t, .int i tk, .str name tn] 16 (fun h => Tree01 w h t T) (fun h h' v => ListRes h h' v (axisL T i name)) := by
  intro A s Q E H hr hp hret
  obtain ⟨dt, rl, tk1, ep1, I1⟩ := hp.inst
  have hT := W.small
  have hal := anc_len W i
  have hdl := desc_len W i
  have hzz := axis_len W hi name
  by_cases hs : name ∈ shortNames
  · walk_at "my_enter"
    walk_at "my_steps"
    exact hret _ _ _ (Fr.keep (by assumption)) (listRes_of (by assumption) (by k_mem) (by assumption) (by omega))
  · have hl : name ∈ longNames := (List.mem_append.mp hn).resolve_left hs
    walk_at "my_enter"
    walk_at "my_steps"
    all_goals first
      | exact hret _ _ _ (Fr.keep (by assumption)) (long_ok (by assumption) (by walk_at "my_ax") (listRes_of (by assumption) (by k_mem) (by walk_at "my_nv") (by walk_at "my_axlen")))
      | (exfalso; simp only [longNames, List.mem_cons, List.not_mem_nil, or_false] at hl; simp_all; done)
end
theorem lay_16 : True := by
  k_with "my_axname" =>
    first | assumption | decide
  k_with "my_spL" =>
    exact axis_spec _ _ _ _ _ _ _ (by assumption) (by walk_at "my_lt") (by walk_at "my_axname")
  trivial

section
theorem lay_17 : True := by
  k_with "S814 my_spP" =>
    exact parent_spec2 _ _ _ _ _ (by assumption) (by walk_at "my_lt")
  trivial
local macro_rules | `(tactic| walk_at "my_spP") => `(tactic| k_extra "S814 my_spP")


theorem doc_lt {T : List NRow} (W : WF T) {r x : Nat} (hr : r < T.length) (hx : x ∈ doc T r) : x < T.length := by
  rcases List.mem_cons.mp hx with rfl | hx
  · exact hr
  · exact (desc_mem W r x hx).2
theorem con_child {T : List NRow} (W : WF T) {n x : Nat} (hb : beside T x = false) : decide (x ∈ axisL T n (Str.ofString "child")) = decide (n ∈ axisL T x (Str.ofString "parent")) := by
  apply decide_eq_decide.mpr
  rw [axisL_child, axisL_parent, kid_par W hb]
  cases par T x with
  | none => simp
  | some q => simp only [Option.some.injEq, List.mem_singleton]; exact eq_comm
theorem con_desc {T : List NRow} (W : WF T) {n x : Nat} (hb : beside T x = false) : decide (x ∈ axisL T n (Str.ofString "descendant")) = decide (n ∈ axisL T x (Str.ofString "ancestor")) := by
  apply decide_eq_decide.mpr
  rw [axisL_descendant, axisL_ancestor, desc_anc W x hb]
theorem foll_plain {T : List NRow} {n : Nat} (hb : beside T n = false) : foll T n = follFrom T n := by unfold foll; rw [hb]; simp
theorem prec_plain {T : List NRow} {n : Nat} (hb : beside T n = false) : prec T n = precFrom T n := by unfold prec; rw [hb]; simp
theorem con_foll {T : List NRow} (W : WF T) {r n x : Nat} (hr : par T r = none) (hb : beside T r = false) (hn : n ∈ doc T r) (hx : x ∈ doc T r) :
    decide (x ∈ axisL T n (Str.ofString "following")) = decide (n ∈ axisL T x (Str.ofString "preceding")) := by
  apply decide_eq_decide.mpr
  rw [axisL_following, axisL_preceding, foll_plain (doc_plain W hb hn), prec_plain (doc_plain W hb hx)]
  exact foll_prec W hr hb hn hx
theorem con_sib {T : List NRow} (W : WF T) {n x : Nat} (bn : beside T n = false) (bx : beside T x = false) : decide (x ∈ axisL T n (Str.ofString "following-sibling")) = decide (n ∈ axisL T x (Str.ofString "preceding-sibling")) := by
  apply decide_eq_decide.mpr
  rw [axisL_following_sibling, axisL_preceding_sibling]; exact sib_iff W bn bx
theorem con_sib2 {T : List NRow} (W : WF T) {n x : Nat} (bn : beside T n = false) (bx : beside T x = false) : decide (x ∈ axisL T n (Str.ofString "preceding-sibling")) = decide (n ∈ axisL T x (Str.ofString "following-sibling")) := (con_sib W bx bn).symm
theorem pick3 {g h : Heap} {L : Addr} {LST : List (Addr × Obj)} {v : Value} {P : Str → Str → Prop} (N : News g L h LST) (H : ∃ (ta : Addr) (a b : Str) (ka kb : Tok), v = .ref ta ∧ P a b ∧ (ta, tupOf [Value.str a ka, .str b kb].toArray) ∈ LST) :
    ∃ (ta : Addr) (a b : Str) (ka kb : Tok), v = .ref ta ∧ P a b ∧ News g L h ((ta, tupOf [Value.str a ka, .str b kb].toArray) :: LST) := by
  obtain ⟨ta, a, b, ka, kb, e, p, m⟩ := H
  exact ⟨ta, a, b, ka, kb, e, p, fun q hq => (List.mem_cons.mp hq).elim (fun e => e ▸ N _ m) (N q)⟩
set_option maxHeartbeats 8000000 in
theorem contrary_spec (w : World) (t pl : Addr) (n : Nat) (tk : Tok) (T : List NRow) (W : WF T) (r : Nat) (pls : List Nat) (hrT : r < T.length) (hr : par T r = none) (hrb : beside T r = false) (hpl : ∀ x ∈ pls, x ∈ doc T r) (hn : n ∈ doc T r) :
    RO1 w 520 [.ref t, .ref pl, .int n tk] 20 (fun h => Tree01 w h t T ∧ NList h pl pls) (fun _ _ v => v = .bool true) := by
  intro A s Q E H hr' hp hret
  obtain ⟨hp, vs, hl, hv⟩ := hp
  obtain ⟨dt, rl, tk1, ep1, I1⟩ := hp.inst
  have hT := W.small
  have hnT := doc_lt W hrT hn
  have hbn := doc_plain W hrb hn
  walk_at "my_enter"
  walk_at "my_steps"
  rename_i lD _ F N _
  refine iter_listT rfl (σ := Unit) (x := Str.ofString "one") (fun _ => []) (fun _ => []) [Str.ofString "other", Str.ofString "along", Str.ofString "place"] (fun _ _ => True) () _ rfl (by walk_at "my_list") (N _ (by k_mem)).2.1 F N (fun _ h => h) (by walk_at "my_nil") (by walk_at "my_nil") (by walk_at "my_nil") trivial ?_ ?_
  · rintro k v ⟨⟩ u h tk own hk hkl _ F N _
    have hkl' : k < 3 := hkl
    try dsimp only at F N
    (try dsimp only [List.cons_append, List.nil_append] at N)
    obtain ⟨ta, a, b, ka, kb, rfl, ⟨ha, hb, hc⟩, N2⟩ := pick3 (v := v) (P := fun a b => a ∈ shortNames ++ longNames ∧ b ∈ shortNames ++ longNames ∧ ∀ x ∈ pls, decide (x ∈ axisL T n a) = decide (n ∈ axisL T x b)) N (by
      rcases k with _ | _ | _ | k
      rotate_left 3
      · omega
      all_goals
        simp only [List.getElem?_cons_zero, List.getElem?_cons_succ, Option.some.injEq] at hk
        subst hk
      · exact ⟨_, _, _, _, _, rfl, ⟨by decide, by decide, fun x hx => con_child W (doc_plain W hrb (hpl x hx))⟩, by k_mem⟩
      · exact ⟨_, _, _, _, _, rfl, ⟨by decide, by decide, fun x hx => con_desc W (doc_plain W hrb (hpl x hx))⟩, by k_mem⟩
      · exact ⟨_, _, _, _, _, rfl, ⟨by decide, by decide, fun x hx => con_foll W hr hrb hn (hpl x hx)⟩, by k_mem⟩)
    clear hk N
    walk_at "my_steps"
    refine iter_list rfl (σ := Unit) (fun _ => []) (fun _ => []) [] (fun _ _ => True) () _ rfl (list_keep hl (by assumption)) (base_ne_L (by assumption) hl) (by assumption) (by assumption) (fun _ h => h) (by walk_at "my_nil") (by walk_at "my_nil") (by walk_at "my_nil") trivial ?_ ?_
    · rintro k2 v2 ⟨⟩ u2 h2 tk2 own2 hk2 hkl2 _ F N _
      obtain ⟨x, tx, hx, rfl⟩ := hv.get hk2
      have hxm := List.mem_of_getElem? hx
      have hxd := hpl x hxm
      have hxT := doc_lt W hrT hxd
      have c1 := hc x hxm
      try dsimp only at F N
      (try dsimp only [List.cons_append, List.nil_append] at N)
      walk_at "my_steps"
      all_goals first
        | walk_at "my_end0"
        | exact absurd (by assumption : (_ != _) = true) (by rw [c1, bne_self_eq_false]; exact Bool.false_ne_true)
    · rintro ⟨⟩ u2 h2 tk2 _ F N _
      walk_at "my_steps"
      walk_at "my_end0"
  · rintro ⟨⟩ u h tk _ F N _
    walk_at "my_steps"
    refine iter_list rfl (σ := Unit) (fun _ => []) (fun _ => []) [] (fun _ _ => True) () _ rfl (list_keep hl (by assumption)) (base_ne_L (by assumption) hl) (by assumption) (by assumption) (fun _ h => h) (by walk_at "my_nil") (by walk_at "my_nil") (by walk_at "my_nil") trivial ?_ ?_
    · rintro k2 v2 ⟨⟩ u2 h2 tk2 own2 hk2 hkl2 _ F N _
      obtain ⟨x, tx, hx, rfl⟩ := hv.get hk2
      have hxd := hpl x (List.mem_of_getElem? hx)
      have hxT := doc_lt W hrT hxd
      have hbx := doc_plain W hrb hxd
      have c4 := con_sib W hbn hbx
      have c5 := con_sib2 W hbn hbx
      have c6 := sib_not W (x := x) hbn
      rw [← axisL_following_sibling, ← axisL_preceding_sibling] at c6
      try dsimp only at F N
      (try dsimp only [List.cons_append, List.nil_append] at N)
      walk_at "my_steps"
      all_goals first
        | walk_at "my_end0"
        | exact absurd (by assumption : (_ != _) = true) (by (first | rw [c4, bne_self_eq_false] | rw [c5, bne_self_eq_false]); exact Bool.false_ne_true)
        | exact absurd ⟨by assumption, by assumption⟩ c6
    · rintro ⟨⟩ u2 h2 tk2 _ F N _
      walk_at "my_steps"
      exact hret _ _ _ (Fr.keep (by assumption)) rfl
end
section
theorem lay_18 : True := by
  k_with "S915 my_spP" =>
    exact parent_spec2 _ _ _ _ _ (by assumption) (by walk_at "my_lt")
  trivial
local macro_rules | `(tactic| walk_at "my_spP") => `(tactic| k_extra "S915 my_spP")


noncomputable def partNames : List Str := [Str.ofString "self", Str.ofString "ancestor", Str.ofString "descendant", Str.ofString "following", Str.ofString "preceding"]
structure StW where
  D : Addr
  fv : List Value
  fn : Nat
  fs : List Nat
set_option maxHeartbeats 8000000 in
theorem parted_spec (w : World) (t pl : Addr) (n : Nat) (tk : Tok) (T : List NRow) (W : WF T) (r : Nat) (pls : List Nat) (hrT : r < T.length) (hr : par T r = none) (hrb : beside T r = false) (hpl : pls.Perm (doc T r)) (hn : n ∈ doc T r) :
    RO1 w 527 [.ref t, .ref pl, .int n tk] 20 (fun h => Tree01 w h t T ∧ NList h pl pls) (fun _ _ v => v = .bool true) := by
  intro A s Q E H hr' hp hret
  obtain ⟨hp, vs, hl, hv⟩ := hp
  obtain ⟨dt, rl, tk1, ep1, I1⟩ := hp.inst
  have hT := W.small
  have hnT := doc_lt W hrT hn
  have hbn := doc_plain W hrb hn
  walk_at "my_enter"
  walk_at "my_steps"
  rename_i fD _ _ _ lD _ F N _
  have hpt := parted W hr hrb hn
  have hfull : partNames.flatMap (axisL T n) = [n] ++ anc T n ++ desc T n ++ follFrom T n ++ precFrom T n := by
    simp only [partNames, List.flatMap_cons, List.flatMap_nil, List.append_nil]
    rw [axisL_self, axisL_ancestor, axisL_descendant, axisL_following, axisL_preceding, foll_plain hbn, prec_plain hbn]
    simp only [List.append_assoc]
  have hdl : (doc T r).length < 60 := by
    have := nodup_len (doc_nodup W r) (n := T.length) fun x hx => doc_lt W hrT hx
    have h2 : (doc T r).length = (r :: desc T r).length := rfl
    omega
  have hlen : (partNames.flatMap (axisL T n)).length < 60 := by rw [hfull, hpt.length_eq]; exact hdl
  refine iter_listJ rfl (σ := StW) (fun c => [(c.D, listOf c.fv.toArray c.fn)]) (fun c => [(Str.ofString "found", .ref c.D)]) [] (fun k c => NV c.fv c.fs ∧ c.fs = (partNames.take k).flatMap (axisL T n) ∧ @Ne Nat c.D lD) ⟨fD, [], 0, []⟩ [(lD, _)]
    rfl (by walk_at "my_list") (N _ (by k_mem)).2.1 F N (by walk_at "my_mem") (by walk_at "my_sep") (by rintro k c ⟨_, _, h⟩; walk_at "my_sep") (by walk_at "my_ps") ⟨.nil, by simp, by (show @Ne Nat fD lD; omega)⟩ ?_ ?_
  · rintro k v ⟨D, fv, fn, fs⟩ u h tk own hk hkl ⟨nf, he, hDl⟩ F N hsep
    have hkl' : k < 5 := hkl
    obtain ⟨nm, tkn, hnm, rfl⟩ : ∃ nm tk', partNames[k]? = some nm ∧ v = .str nm tk' := by
      rcases k with _ | _ | _ | _ | _ | k
      rotate_left 5
      · omega
      all_goals
        simp only [List.getElem?_cons_zero, List.getElem?_cons_succ, Option.some.injEq] at hk
        subst hk
        exact ⟨_, _, rfl, rfl⟩
    have hnx : nm ∈ shortNames ++ longNames := (by decide : ∀ x ∈ partNames, x ∈ shortNames ++ longNames) nm (List.mem_of_getElem? hnm)
    dsimp only at F N nf he hsep hDl ⊢
    dsimp only [List.cons_append, List.nil_append] at N hsep
    simp only [all_cons, all_nil, and_true] at hsep
    have he2 : fs ++ axisL T n nm = (partNames.take (k + 1)).flatMap (axisL T n) := by rw [he]; exact (flatMap_take_succ hnm).symm
    have hz1 : (fs ++ axisL T n nm).length < 60 := by rw [he2]; exact Nat.lt_of_le_of_lt (flatMap_take_le _ _) hlen
    rw [List.length_append] at hz1
    have hz2 := nf.len
    walk_at "my_steps"
    refine ForEnd.intro ⟨_, _, _, _⟩ (by assumption) (by assumption) (by walk_at "my_mem") ⟨by assumption, he2, ?_⟩ (by walk_at "my_sep") (by walk_at "my_ps") (by walk_at "my_same")
    show @Ne Nat _ lD
    dsimp only
    omega
  · rintro ⟨D, fv, fn, fs⟩ u h tk ⟨nf, he, _⟩ F N hsep
    dsimp only at F N nf he hsep ⊢
    have hfl : fs.length < 64 := by rw [he]; exact Nat.lt_of_lt_of_le (Nat.lt_of_le_of_lt (flatMap_take_le _ _) hlen) (by decide)
    have hpz : pls.length < 64 := by rw [hpl.length_eq]; omega
    have hff : fs.Perm pls := by
      rw [he, show (partNames.take _).flatMap (axisL T n) = partNames.flatMap (axisL T n) from rfl, hfull]
      exact hpt.trans hpl.symm
    have q : ∀ a b : List Nat, a.Perm fs → b.Perm pls → a.Pairwise (· ≤ ·) → b.Pairwise (· ≤ ·) → a = b := fun a b h1 h2 h3 h4 => sorted_eq (h1.trans (hff.trans h2.symm)) h3 h4
    walk_at "my_steps"
    rw [decide_eq_true (q _ _ (by assumption) (by assumption) (by assumption) (by assumption))]
    exact hret _ _ _ (Fr.keep (by assumption)) rfl

set_option maxHeartbeats 8000000 in
theorem walked_spec (w : World) (t : Addr) (T : List NRow) (W : WF T) : ∀ (k i : Nat) (tk : Tok), T.length - i ≤ k → i < T.length →
    RO1 w 513 [.ref t, .int i tk] (k + 12) (fun h => Tree01 w h t T) (fun h h' v => ListRes h h' v (walked T i)) := by
  intro k
  induction k with
  | zero => intro i tk h1 h2; omega
  | succ k ih =>
    intro i tk hik hi A s Q E H hr hp hret
    obtain ⟨dt, rl, tk1, ep1, I1⟩ := hp.inst
    have hT := W.small
    have l1 := nsps_len W i
    have l2 := atts_len W i
    have hwl := walked_len W hi
    have hw := walked_eq W i
    walk_at "my_enter"
    walk_at "my_steps"
    rename_i fD _ nvD lfD _ _ _ lD fv lc F N nv _ _ l1
    refine iter_listJ rfl (σ := StW) (fun c => [(c.D, listOf c.fv.toArray c.fn)]) (fun c => [(Str.ofString "found", .ref c.D)]) [] (fun k c => NV c.fv c.fs ∧ c.fs = [i] ++ nsps T i ++ atts T i ++ ((kids T i).take k).flatMap (walked T) ∧ @Ne Nat c.D lD) ⟨fD, _, _, [i] ++ nsps T i ++ atts T i⟩ [(lD, listOf fv.toArray lc)]
      rfl (by walk_at "my_list") (N _ (by k_mem)).2.1 F N (by walk_at "my_mem") (by walk_at "my_sep") (by rintro k c ⟨_, _, h⟩; walk_at "my_sep") (by walk_at "my_ps") ⟨by assumption, by simp, by (show @Ne Nat fD lD; omega)⟩ ?_ ?_
    · rintro j v ⟨D, gv, gn, gs⟩ u h tk own hj hjl ⟨nf, he, hDl⟩ F N hsep
      obtain ⟨c, tkc, hc, rfl⟩ := nv.get hj
      have hcp := W.kid i c (List.mem_of_getElem? hc)
      dsimp only at F N nf he hsep hDl ⊢
      dsimp only [List.cons_append, List.nil_append] at N hsep
      simp only [all_cons, all_nil, and_true] at hsep
      have he2 : gs ++ walked T c = [i] ++ nsps T i ++ atts T i ++ ((kids T i).take (j + 1)).flatMap (walked T) := by rw [he, flatMap_take_succ hc, List.append_assoc]
      have hz1 : (gs ++ walked T c).length < 60 := by
        have q := flatMap_take_le (g := walked T) (kids T i) (j + 1)
        rw [he2]
        rw [hw] at hwl
        simp only [List.length_append] at hwl ⊢
        omega
      rw [List.length_append] at hz1
      have hz2 := nf.len
      walk_at "my_steps"
      refine ro_useL (ih c tkc (sub_step hik hi (by omega)) (by omega)) (by assumption) (by assumption) (by assumption) (by assumption) (by assumption) (by walk_at "my_room") (by walk_at "my_room") (by walk_at "my_pre") ?_ rfl rfl
      intro h' tk' l' vs' c' F' N' l1' nv' ll' st'
      try simp only [all_cons, all_nil, and_true] at l1'
      walk_at "my_steps"
      refine ForEnd.intro ⟨_, _, _, _⟩ (by assumption) (by assumption) (by walk_at "my_mem") ⟨by assumption, he2, ?_⟩ (by walk_at "my_sep") (by walk_at "my_ps") (by walk_at "my_same")
      show @Ne Nat _ lD
      dsimp only
      omega
    · rintro ⟨D, gv, gn, gs⟩ u h tk ⟨nf, he, _⟩ F N hsep
      dsimp only at F N nf he hsep ⊢
      have he2 : gs = walked T i := by rw [he, hw, List.take_of_length_le (by rw [nv.len]; exact Nat.le_refl _)]
      subst he2
      walk_at "my_steps"
      exact hret _ _ _ (Fr.keep (by assumption)) (listRes_of (by assumption) (by k_mem) nf (by omega))
end
theorem lay_19 : True := by
  k_with "my_item" =>
    first | assumption | rfl
  k_with "w subscriptTail" =>
    ((with_reducible show wpAny _ _ (subscriptTail _ _ (Value.ref _) (Value.int _ _)) _ _ _); (refine item_lit (by walk_at "my_list") (by walk_at "my_item") rfl (by walk_at "my_small") ?_))
  k_with "w subscriptTail" =>
    ((with_reducible show wpAny _ _ (subscriptTail _ _ (Value.ref _) (Value.int _ _)) _ _ _); (refine item_nv (by walk_at "my_list") (by assumption) (by assumption) rfl (by walk_at "my_small") ?_); intro _)
  k_with "w subscriptTail" =>
    ((with_reducible show wpAny _ _ (subscriptTail _ _ (Value.ref _) (Value.int (Nat.cast _) _)) _ _ _); (refine item_at (by walk_at "my_list") (by assumption) (by walk_at "my_small") ?_))
  k_with "w subscriptTail Name Slice ref ref" =>
    (
      (with_reducible show wpAny _ _ (subscriptTail _ (PySem.Expr.Slice (some _) none none _) (Value.ref _) (Value.ref _)) _ _ _)
      k_dflt (refine' dropL_r ?q16F ?q16N ?q16l ?q16z ?q16e ?_ ?q16s ?q16t; (case q16F => k_asm); (case q16N => k_asm); (case q16l => walk_at "my_list"); (case q16e => exact rfl); (case q16s => with_unfolding_all rfl); (case q16t => kmk_pure); (case q16z => walk_at "my_small"))
      intro _ _ _ _ l1
      (try k_lt l1); (try revert l1); intros; (try k_sweep))
  k_with "w subscriptTail Name Slice ref ref" =>
    (
      (with_reducible show wpAny _ _ (subscriptTail _ (PySem.Expr.Slice none (some _) none _) (Value.ref _) (Value.ref _)) _ _ _)
      k_dflt (refine' takeL_r ?q17F ?q17N ?q17l ?q17z ?q17e ?_ ?q17s ?q17t; (case q17F => k_asm); (case q17N => k_asm); (case q17l => walk_at "my_list"); (case q17e => exact rfl); (case q17s => with_unfolding_all rfl); (case q17t => kmk_pure); (case q17z => walk_at "my_small"))
      intro _ _ _ _ l1
      (try k_lt l1); (try revert l1); intros; (try k_sweep))
  k_with "w call type:zip" =>
    ((with_reducible show wpAny _ _ (call (Value.type "zip") _) _ _ _); refine stop_ ?_)
  k_with "my_enterC" =>
    (
      refine' call_ownC (by assumption) (by assumption) ?q18k6 ?q18k7 ?q18k9 ?q18kB ?q18kD ?_ ?q18c2 ?q18c3 ?q18c4; (case q18k6 => k_is); (case q18k7 => k_is); (case q18k9 => exact BindsTo.of_eq rfl); (case q18kB => exact rfl); (case q18kD => decide +kernel); (case q18c2 => exact rfl); (case q18c3 => exact rfl); (case q18c4 => exact rfl)
      intro _ _ _ _ _ _ _ _ _ _ _ _ _ _ _ _ _ _ _ _ Y' _ _
      k_cells Y'
      try dsimp only)
  k_with "w eval DictComp" =>
    ((with_reducible show wpAny _ _ (eval (Expr.DictComp _ _ _ _ _) _) _ _ _); refine stop_ ?_)
  k_with "w eval ListComp" =>
    ((with_reducible show wpAny _ _ (eval (Expr.ListComp _ _ _ _) _) _ _ _); refine stop_ ?_)
  k_with "w exec Assign cons ListComp" =>
    ((with_reducible show wpAny _ _ (exec (Stmt.Assign [Expr.Name _ _] (Expr.ListComp _ _ _ _) _) _) _ _ _); refine stop_ ?_)
  k_with "w call builtin:sorted" =>
    ((with_reducible show wpAny _ _ (call (Value.builtin "sorted") [Value.ref _] [_]) _ _ _); refine stop_ ?_)
  k_with "w eval Lambda" =>
    ((with_reducible show wpAny _ _ (eval (Expr.Lambda _ _ _ _) _) _ _ _); refine stop_ ?_)
  k_with "my_enterGC" =>
    (
      refine' call_ownGC (by assumption) (by assumption) (by assumption) (by assumption) (by assumption) ?q19k6 ?q19k7 ?q19k9 ?q19kB ?q19kD ?_ ?q19c2 ?q19c3 ?q19c4; (case q19k6 => k_is); (case q19k7 => k_is); (case q19k9 => exact BindsTo.of_eq rfl); (case q19kB => exact rfl); (case q19kD => decide +kernel); (case q19c2 => exact rfl); (case q19c3 => exact rfl); (case q19c4 => exact rfl)
      intro _ _ _ _ _ _ _ _ _ _ _ _ _ _ _ _ _ _ _ _ _ Y' _ _
      k_cells Y'
      rename News _ _ _ _ => N'
      dsimp only [List.cons_append, List.nil_append] at N'
      revert N'
      intro _
      try dsimp only)
  k_with "my_enterG" =>
    (
      refine' call_ownG (by assumption) (by assumption) (by assumption) (by assumption) (by assumption) ?q20k6 ?q20k7 ?q20k9 ?q20kB ?_ ?q20c2 ?q20c3 ?q20c4 ?q20c5; (case q20k6 => k_is); (case q20k7 => k_is); (case q20k9 => exact BindsTo.of_eq rfl); (case q20kB => exact locs rfl); (case q20c2 => exact rfl); (case q20c3 => exact rfl); (case q20c4 => exact rfl); (case q20c5 => decide)
      intro _ _ _ _ _ _ _ _ _ _ _ _ _ _ _ _ _ F' N' l0' hd' hu'
      dsimp only [List.map, List.zip, List.zipWith, List.reverse, List.reverseAux] at F'
      revert F' N' l0' hd' hu'
      intro _ _ _ _ _
      try dsimp only)
  k_with "my_sub" =>
    first
      | ((try simp only [List.cons_append, List.nil_append, List.append_nil, all_cons, all_app, all_nil, and_true, true_and, implies_true])
         and_intros
         all_goals first
           | (simp only [List.mem_cons, List.mem_append, true_or, or_true]; done)
           | (intro p hp; simp only [List.mem_cons, List.mem_append, hp, true_or, or_true]; done)
           | (simp only [List.mem_cons, List.mem_append]; (repeat (first | assumption | refine Or.inr ?_)); done))
      | (intro p hp
         (try simp only [List.mem_cons, List.mem_append, List.not_mem_nil, or_false, false_or, List.cons_append, List.nil_append] at hp ⊢)
         (repeat' (refine Or.elim hp ?_ ?_ <;> intro hp))
         all_goals first | (simp only [hp, true_or, or_true]; done) | simp_all)
  k_with "my_enterCls" =>
    (
      refine' cls_own (by assumption) (by assumption) ?q21k1 ?q21k2 ?q21k3 ?q21k6 ?q21k7 ?q21k9 ?q21kB ?_ ?q21c2 ?q21c3 ?q21c4 ?q21c5; (case q21k1 => k_is); (case q21k2 => k_is); (case q21k3 => k_is); (case q21k6 => k_is); (case q21k7 => k_is); (case q21k9 => exact fun _ _ => BindsTo.of_eq rfl); (case q21kB => exact fun _ => locs rfl); (case q21c2 => exact rfl); (case q21c3 => exact rfl); (case q21c4 => exact rfl); (case q21c5 => decide)
      intro _ _ _ _ _ _ _ _ _ _ _ _ _ _ _ _ _ _ _ F' N' l1' l2' hd' hu'
      dsimp only [List.map, List.zip, List.zipWith, List.reverse, List.reverseAux] at F'
      revert F' N' l1' l2' hd' hu'
      intro _ _ _ _ _ _
      try dsimp only)
  k_with "w compareOp NotIn str ref" =>
    (
      (with_reducible show wpAny _ _ (compareOp CmpOp.NotIn (Value.str _ _) (Value.ref _)) _ _ _)
      k_dflt (
        refine' notin_tuple_strs (tupK ?q22X ?q22l) ?q22s ?_
        (case q22X => exact Frag.In.keeps (by assumption) (Fr.keep (by assumption)))
        (case q22l => k_is)
        (case q22s => kde_strs)))
  k_with "my_sub" =>
    ((try dsimp only [List.nil_append, List.cons_append]); (repeat' (first | (refine Mine.fc ?q23m ?_; (case q23m => walk_at "my_mm")) | exact Mine.fn | with_reducible exact sub_r | with_reducible exact sub_al | with_reducible exact sub_a2 | with_reducible exact sub_a3 | with_reducible exact sub_as | with_reducible refine sub_app ?_ ?_ | with_reducible refine sub_t ?_ | with_reducible refine sub_ar ?_)); done)
  trivial

section
set_option maxHeartbeats 4000000 in
theorem lines_spec (w : World) (t : Addr) (i : Nat) (tki : Tok) (T : List NRow) (W : WF T) (hi : i < T.length) :
    RO1 w 175 [.ref t, .int i tki] 7 (fun h => Tree01 w h t T) (fun h h' v => ListRes h h' v (lineD T i)) := by
  intro A s Q E H hr hp hret
  obtain ⟨dt, rl, tk1, ep1, I1⟩ := hp.inst
  have hlz := lineD_len W hi
  have hT := W.small
  walk_at "my_enter"
  walk_at "my_steps"
  rename_i fD _ _ _ F N
  refine while_rule rfl (σ := St1) (fun c => [(fD, listOf c.fv.toArray c.fn)]) (fun c => [(Str.ofString "node", c.v)]) []
    (fun c => PVal c.o c.v ∧ NV c.fv c.fs ∧ c.fs ++ (match c.o with | none => [] | some x => x :: anc T x) = i :: anc T i ∧ ∀ x, c.o = some x → x < T.length) (fun c => match c.o with | none => 0 | some x => x + 1)
    ⟨[], 0, [], some i, .int i tki⟩ [] (by assumption) (by assumption) ?_ ?_ ?_ ?_ ?_
  · walk_at "my_mem"
  · simp
  · walk_at "my_ps"
  · exact ⟨.some _ _, .nil, rfl, fun x hx => by cases hx; exact hi⟩
  · rintro ⟨fv, fn, fs, o, v⟩ u h tk ⟨hv, nf, he, hb⟩ F N _
    dsimp only at F N hv nf he hb ⊢
    dsimp only [List.cons_append, List.nil_append] at N
    have hz : (i :: anc T i).length < 61 := by have := hlz; unfold lineD at this; rwa [List.length_reverse] at this
    have nl := nf.len
    cases hv with
    | none =>
      have hz2 : fs.length < 61 := by rw [← he] at hz; simp only [List.length_append] at hz; omega
      walk_at "my_steps"
      all_goals first | (exfalso; simp at *; done) | skip
      refine hret _ _ _ (Fr.keep (by assumption)) (listRes_of (by assumption) (by k_mem) ?_ (by omega))
      unfold lineD
      rw [← he]; simpa using nf.rev
    | some x tx =>
      have hx := hb x rfl
      have hz2 : fs.length < 61 := by rw [← he] at hz; simp only [List.length_append] at hz; omega
      walk_at "my_steps"
      all_goals first | (exfalso; simp at *; done) | skip
      rename_i pv' _ hpv' _ _ _
      refine' WhileEnd.intro ⟨_, _, fs ++ [x], par T x, pv'⟩ ?F ?N ?mem ?J ?mu ?sep ?ps ?m
      (case F => assumption)
      (case N => assumption)
      (case mem => walk_at "my_mem")
      (case sep => simp)
      (case ps => walk_at "my_ps")
      (case m => walk_at "my_same")
      (case J =>
        refine ⟨hpv', nf.snoc _ _, ?_, ?_⟩
        · rw [← he]
          cases hp : par T x with
          | none => simp [anc_none hp]
          | some q => simp [anc_some W hp]
        · intro y hy
          have := par_lt W hy; omega)
      (case mu =>
        cases hp : par T x with
        | none => simp
        | some q => have := par_lt W hp; simp; omega)
set_option maxHeartbeats 4000000 in
theorem among_spec (w : World) (t : Addr) (p i : Nat) (tk1 tk2 : Tok) (T : List NRow) (W : WF T) (hpi : par T i = some p) :
    RO1 w 182 [.ref t, .int p tk1, .int i tk2] 8 (fun h => Tree01 w h t T) (fun h h' v => TupRes h h' v (slot T p i)) := by
  intro A s Q E H hr hp hret
  obtain ⟨dt, rl, tk1, ep1, I1⟩ := hp.inst
  have hT := W.small
  have hi : i < T.length := lt_of_par hpi
  have hpl : p < T.length := by have := par_lt W hpi; omega
  have l1 := nsps_len W p
  have l2 := atts_len W p
  have l3 := kids_len W p
  have hup := (W.up i p hpi).2.2
  by_cases e1 : kindOf T i = sNs
  · have hm : i ∈ nsps T p := by rw [if_neg (by rw [e1]; decide), if_pos e1] at hup; exact hup
    have es := slot_ns W hm
    walk_at "my_enter"
    walk_at "my_steps"
    all_goals first | (exfalso; simp_all; done) | skip
    exact hret _ _ _ (Fr.keep (by assumption)) (tupRes_of (vs := [_, _]) (by assumption) (by k_mem) (by rw [es]; exact .cons (0 : Nat) _ (.cons _ _ .nil)) (by rw [es]; exact (by decide : 2 < 4096)))
  · by_cases e2 : kindOf T i = sAttr
    · have hm : i ∈ atts T p := by rw [if_pos e2] at hup; exact hup
      have es := slot_att W hm
      walk_at "my_enter"
      walk_at "my_steps"
      all_goals first | (exfalso; simp_all; done) | skip
      exact hret _ _ _ (Fr.keep (by assumption)) (tupRes_of (vs := [_, _]) (by assumption) (by k_mem) (by rw [es]; exact .cons (1 : Nat) _ (.cons _ _ .nil)) (by rw [es]; exact (by decide : 2 < 4096)))
    · have hm : i ∈ kids T p := by rw [if_neg e2, if_neg e1] at hup; exact hup
      have es := slot_kid W hm
      walk_at "my_enter"
      walk_at "my_steps"
      all_goals first | (exfalso; simp_all; done) | skip
      exact hret _ _ _ (Fr.keep (by assumption)) (tupRes_of (vs := [_, _]) (by assumption) (by k_mem) (by rw [es]; exact .cons (2 : Nat) _ (.cons _ _ .nil)) (by rw [es]; exact (by decide : 2 < 4096)))
end
section
local macro_rules | `(tactic| walk_at "my_none") => `(tactic| skip)
theorem lay_20 : True := by
  k_with "S1116 my_spL" =>
    exact lines_spec _ _ _ _ _ (by assumption) (by walk_at "my_lt")
  k_with "S1117 my_spT" =>
    exact among_spec _ _ _ _ _ _ _ (by assumption) (by assumption)
  k_with "S1118 binaryOp Add ref ref" =>
    (
      (with_reducible show wpAny _ _ (binaryOp _ (Value.ref _) (Value.ref _)) _ _ _)
      k_dflt (
        refine catT_r (by assumption) (by assumption) (by walk_at "my_get") (by walk_at "my_get") (by assumption) (by assumption) (by assumption) (by assumption) (by walk_at "my_small") ?_
        intro _ _ _ _ l1 nv'
        (first | (k_lt l1; (try revert l1); revert nv') | revert l1 nv'); intros; (try k_sweep)))
  trivial
local macro_rules | `(tactic| walk_at "my_spL") => `(tactic| k_extra "S1116 my_spL")
local macro_rules | `(tactic| walk_at "my_spT") => `(tactic| k_extra "S1117 my_spT")
local macro_rules | `(tactic| walk_at "binaryOp Add ref ref") => `(tactic| k_extra "S1118 binaryOp Add ref ref")

structure StT where
  D : Addr
  fv : List Value
  fs : List Nat
set_option maxHeartbeats 4000000 in
theorem place_spec (w : World) (t : Addr) (i : Nat) (tki : Tok) (T : List NRow) (W : WF T) (hi : i < T.length) :
    RO1 w 189 [.ref t, .int i tki] 10 (fun h => Tree01 w h t T) (fun h h' v => TupRes h h' v (place T i)) := by
  intro A s Q E H hr hp hret
  obtain ⟨dt, rl, tk1, ep1, I1⟩ := hp.inst
  have hT := W.small
  have hlz := lineD_len W hi
  obtain ⟨r, hr1, hr2⟩ := lineD_head W i
  walk_at "my_enter"
  walk_at "my_steps"
  rename_i l' vs' c' nv' ll' _ _ _ _ _ D1 _ h12' _ D2 _ F N l12
  obtain ⟨h12, h22⟩ := l12
  refine iter_zip rfl (σ := StT) (x := Str.ofString "above") (fun c => [(c.D, tupOf c.fv.toArray)]) (fun c => [(Str.ofString "found", .ref c.D)]) [Str.ofString "below"] (fun k c => NV c.fv c.fs ∧ ∃ a, (lineD T i)[k]? = some a ∧ c.fs = place T a) ⟨D1, _, [r]⟩ [(D2, listOf (List.drop 1 vs').toArray 0), (l', listOf vs'.toArray c')]
    rfl (by walk_at "my_list") (by walk_at "my_list") (N (l', listOf vs'.toArray c') (by k_mem)).2.1 (N (D2, listOf (List.drop 1 vs').toArray 0) (by k_mem)).2.1 F N (by walk_at "my_mem") (by walk_at "my_sep") (by walk_at "my_sep") (by walk_at "my_ps") ⟨.cons _ _ .nil, r, hr1, (place_none hr2).symm⟩ ?_ ?_
  · rintro k TT a b ⟨D, fv, fs⟩ u h tk own ha hb hTT ⟨nf, n, hn, he⟩ F N hsep
    dsimp only at F N nf he hsep ⊢
    obtain ⟨n', tn, hn', rfl⟩ := nv'.get ha
    obtain ⟨m', tm, hm', rfl⟩ := nv'.get (i := k + 1) (by rw [← hb, List.getElem?_drop, Nat.add_comm])
    rw [hn] at hn'
    cases hn'
    have hpm := lineD_at W i k n m' hn hm'
    have hnl := place_len W n
    have hn1 : n < T.length := lineD_lt W hi n (List.mem_of_getElem? hn)
    have hfne : fs ≠ [] := by rw [he]; exact place_ne W n
    have hsne := slot_ne T n m'
    have hsl := slot_len T n m'
    have hfl : fs.length < 130 := by rw [he]; omega
    have he2 : fs ++ slot T n m' = place T m' := by rw [he, place_some W hpm]
    dsimp only [List.cons_append, List.nil_append] at N hsep
    simp only [all_cons, all_nil, and_true] at hsep
    walk_at "my_steps"
    exact ForEnd.intro ⟨_, _, _⟩ (by assumption) (by assumption) (by walk_at "my_mem") ⟨by assumption, m', hm', he2⟩ (by walk_at "my_sep") (by walk_at "my_ps") (by walk_at "my_same")
  · rintro ⟨D, fv, fs⟩ u h tk ⟨nf, n, hn, he⟩ F N hsep
    dsimp only at F N nf he hsep ⊢
    have hlen : min vs'.length (List.drop 1 vs').length = (lineD T i).length - 1 := by rw [List.length_drop, nv'.len]; omega
    rw [hlen, lineD_last W i] at hn
    cases hn
    have hpl := place_len W i
    walk_at "my_steps"
    exact hret _ _ _ (Fr.keep (by assumption)) (tupRes_of (by assumption) (by k_mem) (by rw [← he]; exact nf) (by omega))
end
noncomputable abbrev RW1 (w : World) := RW (PySem.Challenge.pw_nu0071_01) w (hd.heap_1 w.params)
noncomputable abbrev ioQ : Str := Str.ofString "in_order.<locals>.<lambda>"
noncomputable abbrev IoTab := TabOK 191 161 29 ioQ
theorem lay_21 : True := by
  k_with "my_spT" =>
    exact place_spec _ _ _ _ _ (by assumption) (by walk_at "my_lt")
  trivial

section
theorem lay_22 : True := by
  k_with "S1219 my_in2" =>
    (simp only [List.mem_cons, true_or, or_true])
  k_with "S1220 subscriptTail" =>
    ((with_reducible show wpAny _ _ (subscriptTail _ _ (Value.ref _) (Value.int _ _)) _ _ _); k_dflt (refine kda_item (by assumption) (by k_mem) (by assumption) (intKind_is _ _ _ _) (by assumption) ?_))
  trivial
local macro_rules | `(tactic| walk_at "my_in2") => `(tactic| k_extra "S1219 my_in2")
local macro_rules | `(tactic| walk_at "subscriptTail") => `(tactic| k_extra "S1220 subscriptTail")

structure StD where
  ts : List (Addr × Obj)
  kvs : List (Int × Value)
set_option maxHeartbeats 4000000 in
theorem inorder_spec (w : World) (t l : Addr) (T : List NRow) (W : WF T) (r : Nat) (ns : List Nat) (hrT : r < T.length) (hnd : ns.Nodup) (hw : ∀ x ∈ ns, x ∈ walked T r) :
    RW1 w 194 [.ref t, .ref l] 13 (fun g h => Tree01 w g t T ∧ NList g l ns ∧ CodeHd g 193 191 ∧ ∃ tl, IoTab tl ∧ Hid g h tl)
      (fun g _ h' v => (∃ tl, IoTab tl ∧ Hid g h' tl) ∧ ListRes g h' v ((walked T r).filter fun x => decide (x ∈ ns))) := by
  intro A s g Q E H hst hsz hr hp hret
  obtain ⟨hp, ⟨vs, hl, hv⟩, hcd, tl, htl, hhid⟩ := hp
  obtain ⟨dt, rl, tk1, ep1, I1⟩ := hp.inst
  have hT := W.small
  have hb : ∀ x ∈ ns, x < T.length := fun x hx => (walked_mem W hrT x (hw x hx)).2
  have hnl : ns.length < 60 := Nat.lt_of_le_of_lt (nodup_len hnd hb) hT
  have hvl := hv.len
  walk_at "my_enterGC"
  walk_at "my_steps"
  rename_i L' h1 tk2 B X TT F l0 hd' hu' ok ot dk dT N
  replace dk : ok.data = .cell none := dk
  replace dT : ot.data = .cell (some (.ref t)) := dT
  replace F : Fr g L' h1 (fun y => if y = Str.ofString "nodes" then some (.ref l) else none) := F
  have lne : @Ne Nat (L' + 1 + 1) (L' + 1) := by omega
  refine eval_dcomp (cl := [(Str.ofString "tree", L' + 1)]) F rfl (by decide) rfl (by decide) rfl ?_
  walk_at "my_steps"
  refine dcomp_list (σ := StD) (fun c => c.ts) (fun c => c.kvs) (fun k c => c.kvs.map (·.1) = (ns.take k).map Int.ofNat ∧ KV c.ts (place T) (ns.take k) (c.kvs.map (·.2))) ⟨[], []⟩ ((L' + 1 + 1, ok) :: (L' + 1, ot) :: tl) rfl (list_keep hl F) (base_ne_L F hl) (by rw [sizeLine_eq]; omega)
    (by assumption) (by assumption) (by walk_at "my_sub") (by walk_at "my_nil") (by walk_at "my_nil") rfl ⟨by simp, trivial⟩ ?_ ?_
  · rintro i v ⟨ts, kvs⟩ h tk own C oC m₂ E' hvi hi ⟨h1, h2⟩ hyl hC hoC hx F N hsep
    dsimp only at h1 h2 hyl N hsep ⊢
    obtain ⟨n, tn, hn, rfl⟩ := hv.get hvi
    have hnb := hb n (List.mem_of_getElem? hn)
    have N2 : News g L' h ((C, oC) :: (L' + 1 + 1, ok) :: (L' + 1, ot) :: (ts ++ (tl ++ own))) := News.sub N (by walk_at "my_sub")
    walk_at "my_steps"
    rename_i l' vs' F' N' nv' ll' st' l1
    refine DCompEnd.intro (⟨(l', tupOf vs'.toArray) :: ts, kvs ++ [((n : Int), .ref l')]⟩ : StD) F' N' (by walk_at "my_sub") ?_ ⟨?_, ?_⟩ ?_
    · dsimp only
      rw [stored_next h1 hnd hn]
    · dsimp only
      rw [List.map_append, h1, List.take_add_one, hn]; simp
    · dsimp only
      rw [List.map_append, List.take_add_one, hn]
      exact KV.snoc (KV.more (fun p hp => .tail _ hp) h2) ⟨l', vs', rfl, .head _, nv'⟩
    · intro q hq p hp
      rcases List.mem_cons.mp hq with rfl | hq
      · have := (N' (l', tupOf vs'.toArray) (.head _)).1
        intro e
        have e' : p.1 = l' := e
        simp only [all_app] at l1
        obtain ⟨a1, a2, a3, a4, a5, a6⟩ := l1
        simp only [List.cons_append, List.mem_cons, List.mem_append] at hp
        rcases hp with rfl | rfl | hp | hp
        · exact a2 e'
        · exact a3 e'
        · exact a5 p hp e'
        · exact a6 p hp e'
      · exact hsep q hq p hp
  · rintro D oD ⟨ts, kvs⟩ h tk ⟨h1, h2⟩ hyl hoD hLD F N hD hsep
    dsimp only at h1 h2 hyl hoD N hsep hD ⊢
    have N2 : News g L' h ((D, oD) :: (L' + 1 + 1, ok) :: (L' + 1, ot) :: (ts ++ tl)) := News.sub N (by walk_at "my_sub")
    clear N
    have hDk : @Ne Nat D (L' + 1 + 1) := Ne.symm (hD (L' + 1 + 1, ok) (by simp))
    refine storeX_C F N2 (c := L' + 1 + 1) rfl (UpdF.tail hDk (UpdF.head fun p hp => ?_)) dk ?_
    · rcases List.mem_cons.mp hp with rfl | hp
      · exact lne.symm
      · rcases List.mem_append.mp hp with hp | hp
        · exact (hsep p hp (L' + 1 + 1, ok) (by simp)).symm
        · exact Nat.ne_of_lt (Nat.lt_of_lt_of_le (l0 p hp) (by omega))
    intro h' ok' F N dk'
    try dsimp only at N
    have hlo : (D == sysModules) = false := beq_eq_false_iff_ne.mpr (Nat.ne_of_gt (Nat.lt_trans (modules_low TT.nolimit) (Nat.lt_of_le_of_lt F.above hLD)))
    rw [hvl, List.take_length] at h1 h2
    have hinj : ∀ x ∈ ns, ∀ y ∈ ns, x ≠ y → place T x ≠ place T y := fun x _ y _ hxy e => hxy (place_inj W e)
    walk_at "my_steps"
    rcases htl with _ | ⟨hod, hov, hcne⟩
    · have hPL := l0 _ (.head _)
      have hPD := hD (191, tabObj #[]) (by simp)
      have N3 : News g L' h' ((191, tabObj #[]) :: (D, oD) :: (L' + 1 + 1, ok') :: (L' + 1, ot) :: ts) := News.sub N (by walk_at "my_sub")
      refine kla_eval rfl (kla_nest (c := 193) (P := 191) F N3 TT hcd rfl (UpdF.head ?_) trivial rfl rfl ?_)
      · intro p hp
        simp only [List.mem_cons] at hp
        rcases hp with rfl | rfl | rfl | hp
        · exact hPD.symm
        · exact Nat.ne_of_gt (Nat.lt_of_lt_of_le hPL (by omega))
        · exact Nat.ne_of_gt (Nat.lt_of_lt_of_le hPL (by omega))
        · exact (hsep p hp (191, tabObj #[]) (by simp)).symm
      intro f c' oc vs2 t2 ctv h3 tk3 F N hod hov l1 l2
      have hcne : @Ne Nat c' 191 := Nat.ne_of_gt (l1 _ (.head _))
      try dsimp only at N
      walk_at "my_steps"
      have hnk := hoD
      obtain ⟨_, _, _, _, _, _, hknd⟩ := hnk
      refine sortD_r (q := f) (o := oD) (kvs := kvs) (ns := ns) (ky := place T) rfl F N (by k_mem) hoD hlo h1 (h2.more (by walk_at "my_sub")) (place_ne W) hinj hnd (by omega) ?_ ?_
      · rintro i n v t1 s₁ nw Q' hn hx ⟨hh, tkk, e⟩ hnw F1 N1 hq
        subst e
        have hx2 : kvs[i]? = some ((n : Int), v) := by
          have e1 : (kvs.map (·.1))[i]? = some (n : Int) := by rw [h1, List.getElem?_map, hn]; rfl
          rw [List.getElem?_map] at hx e1
          cases e2 : kvs[i]? with
          | none => rw [e2] at hx; cases hx
          | some y => rw [e2] at hx e1; obtain ⟨y1, y2⟩ := y; simp at hx e1; rw [hx, e1]
        have hval := valueAt_of_get hknd hx2
        refine wpAny_call (kla_code B F1 X N1 TT rfl rfl rfl (hnw _ (.head _)) (codeRec_news N1 (hnw (c', oc) (by walk_at "my_in2")) hod hov) (Nat.lt_of_le_of_lt (Nat.le_add_right _ _) hd') rfl (locs rfl) ?_ rfl rfl rfl (by decide))
        intro g2 L2 h4 FG F2 N2 B2 X2 T2
        simp only [List.reverse_cons, List.reverse_nil, List.nil_append, List.cons_append] at F2
        have N5 : News g2 L2 h4 ((D, oD) :: (L' + 1 + 1, ok') :: nw) := fun p hp => by
          rcases List.mem_cons.mp hp with rfl | hp
          · exact N2 _ (hnw _ (by walk_at "my_in2"))
          · rcases List.mem_cons.mp hp with rfl | hp
            · exact N2 _ (hnw _ (by walk_at "my_in2"))
            · exact N2 _ hp
        walk_at "my_steps"
        exact hq _ _ (by assumption) (News.sub (by assumption) (by walk_at "my_sub"))
      · intro D2 h4 tk4 out ns' c F N hlt ho hpm hs
        have e : ns' = (walked T r).filter fun x => decide (x ∈ ns) := in_order_eq W hnd hw hpm hs
        refine hret _ _ _ F.keep ⟨⟨[(191, tabObj #[rawInt 161, rawInt 29, .ref c']), (c', oc)], .made hod hov hcne, hid_of (News.sub N (by walk_at "my_sub"))⟩, D2, out, c, rfl, (N _ (.head _)).1, by rw [← e]; exact ho, (N _ (.head _)).2.2, ?_⟩
        rw [← e, hpm.length_eq]; omega
    · rename_i c' oc vs2 t2 _
      have N3 : News g L' h' ((191, tabObj #[rawInt 161, rawInt 29, .ref c']) :: (c', oc) :: (D, oD) :: (L' + 1 + 1, ok') :: (L' + 1, ot) :: ts) := News.sub N (by walk_at "my_sub")
      refine kla_eval rfl (kla_hit (c := 193) (P := 191) (c' := c') F N3 TT hcd rfl (.head _) (by kn_triples) (by kn_hit) rfl ?_)
      intro f ctv h3 tk3 F N l1
      walk_at "my_steps"
      have hnk := hoD
      obtain ⟨_, _, _, _, _, _, hknd⟩ := hnk
      refine sortD_r (q := f) (o := oD) (kvs := kvs) (ns := ns) (ky := place T) rfl F N (by k_mem) hoD hlo h1 (h2.more (by walk_at "my_sub")) (place_ne W) hinj hnd (by omega) ?_ ?_
      · rintro i n v t1 s₁ nw Q' hn hx ⟨hh, tkk, e⟩ hnw F1 N1 hq
        subst e
        have hx2 : kvs[i]? = some ((n : Int), v) := by
          have e1 : (kvs.map (·.1))[i]? = some (n : Int) := by rw [h1, List.getElem?_map, hn]; rfl
          rw [List.getElem?_map] at hx e1
          cases e2 : kvs[i]? with
          | none => rw [e2] at hx; cases hx
          | some y => rw [e2] at hx e1; obtain ⟨y1, y2⟩ := y; simp at hx e1; rw [hx, e1]
        have hval := valueAt_of_get hknd hx2
        refine wpAny_call (kla_code B F1 X N1 TT rfl rfl rfl (hnw _ (.head _)) (codeRec_news N1 (hnw (c', oc) (by walk_at "my_in2")) hod hov) (Nat.lt_of_le_of_lt (Nat.le_add_right _ _) hd') rfl (locs rfl) ?_ rfl rfl rfl (by decide))
        intro g2 L2 h4 FG F2 N2 B2 X2 T2
        simp only [List.reverse_cons, List.reverse_nil, List.nil_append, List.cons_append] at F2
        have N5 : News g2 L2 h4 ((D, oD) :: (L' + 1 + 1, ok') :: nw) := fun p hp => by
          rcases List.mem_cons.mp hp with rfl | hp
          · exact N2 _ (hnw _ (by walk_at "my_in2"))
          · rcases List.mem_cons.mp hp with rfl | hp
            · exact N2 _ (hnw _ (by walk_at "my_in2"))
            · exact N2 _ hp
        walk_at "my_steps"
        exact hq _ _ (by assumption) (News.sub (by assumption) (by walk_at "my_sub"))
      · intro D2 h4 tk4 out ns' c F N hlt ho hpm hs
        have e : ns' = (walked T r).filter fun x => decide (x ∈ ns) := in_order_eq W hnd hw hpm hs
        refine hret _ _ _ F.keep ⟨⟨[(191, tabObj #[rawInt 161, rawInt 29, .ref c']), (c', oc)], .made hod hov hcne, hid_of (News.sub N (by walk_at "my_sub"))⟩, D2, out, c, rfl, (N _ (.head _)).1, by rw [← e]; exact ho, (N _ (.head _)).2.2, ?_⟩
        rw [← e, hpm.length_eq]; omega
end
section
theorem lay_23 : True := by
  k_with "S1321 setItem ref int" =>
    ((with_reducible show wpAny _ _ (setItem (Value.ref _) (Value.int _ _) (Value.bool _)) _ _ _); k_dflt (refine' kda_set (knd := PySem.intKind _ _) ?q24F ?q24N ?q24U ?q24d (intKind_is _ _ _ _) ?q24z ?_; (case q24F => k_asm); (case q24N => k_asm); (case q24U => k_updF); (case q24d => k_asm); (case q24z => assumption)); intro _ _ _ N' hd'; (try dsimp only at N'); revert N' hd'; intros; (try k_sweep))
  k_with "S1322 call type:list" =>
    (
      (with_reducible show wpAny _ _ (call (Value.type "list") [Value.ref _]) _ _ _)
      k_dflt (refine listD_r rfl (by assumption) (by assumption) (by k_mem) (by assumption) (by assumption) (by assumption) (by omega) ?_)
      intro _ _ _ _ _ _ _ l1 nv'
      (first | (k_lt l1; (try revert l1); revert nv') | revert l1 nv'); intros; (try k_sweep))
  trivial
local macro_rules | `(tactic| walk_at "setItem ref int") => `(tactic| k_extra "S1321 setItem ref int")
local macro_rules | `(tactic| walk_at "call type:list") => `(tactic| k_extra "S1322 call type:list")

structure StU where
  o : Obj
  kvs : List (Int × Value)
set_option maxHeartbeats 4000000 in
theorem unlike_spec (w : World) (l : Addr) (ns : List Nat) (hz : ns.length < 65536) (hzu : (uniq ns).length < 4096) :
    RO1 w 220 [.ref l] 5 (fun h => NList h l ns) (fun h h' v => ListRes h h' v (uniq ns)) := by
  intro A s Q E H hr hp hret
  obtain ⟨vs, hl, hv⟩ := hp
  have hvl := hv.len
  walk_at "my_enter"
  walk_at "my_steps"
  rename_i d1 _ o1 lo hs fs hi fi _ _ F N
  refine iter_list rfl (σ := StU) (fun c => [(d1, c.o)]) (fun _ => []) [] (fun k c => Obj.IsDictOf (intKind _ w) c.o c.kvs ∧ c.kvs.map (·.1) = (uniq (ns.take k)).map Int.ofNat) ⟨o1, []⟩ []
    rfl (list_keep hl F) (base_ne_L F hl) F N (by walk_at "my_mem") (by simp) (fun c p hp => by have := base_ne N hl; simp only [all_cons] at this; rw [List.mem_singleton.mp hp]; exact this.1) (by simp) ⟨hi, rfl⟩ ?_ ?_
  · rintro k v ⟨o, kvs⟩ u h tk own hk hkl ⟨hdi, hks⟩ F N hsep
    dsimp only at F N hdi hks hsep ⊢
    dsimp only [List.cons_append, List.nil_append] at N hsep
    simp only [all_cons, all_nil, and_true] at hsep
    obtain ⟨n, tn, hn, rfl⟩ := hv.get hk
    have hsz : kvs.length ≤ sizeLine := by
      have h1 := congrArg List.length hks
      simp only [List.length_map] at h1
      have h2 := uniq_len (ns.take k)
      rw [List.length_take] at h2
      rw [sizeLine_eq]; omega
    walk_at "my_steps"
    rename_i o2 _ _ hd2
    exact ForEnd.intro (⟨o2, stored kvs (n : Int) (.bool true)⟩ : StU) (by assumption) (by assumption) (by walk_at "my_mem") ⟨hd2, by dsimp only; rw [stored_keys hks, uniq_next hn]⟩ (by walk_at "my_sep") (by walk_at "my_ps") (by walk_at "my_same")
  · rintro ⟨o, kvs⟩ u h tk ⟨hdi, hks⟩ F N hsep
    dsimp only at F N hdi hks hsep ⊢
    rw [hvl, List.take_length] at hks
    have hul := uniq_len ns
    walk_at "my_steps"
    exact hret _ _ _ (Fr.keep (by assumption)) (listRes_of (by assumption) (by k_mem) (by assumption) (by omega))

inductive StepAt (P : Params) (h : Heap) (a : Addr) (name : Str) : Prop
  | ik (d tt tp : Addr) (k1 k2 k3 t1 t2 ep : Nat)
    (f0 : h.get? a = some (instObj 474 d))
    (f1 : h.get? d = some (dictOf [⟨PyData.keyHash P (Str.ofString "axis"), .str (Str.ofString "axis") k1, .str name t1⟩, ⟨PyData.keyHash P (Str.ofString "test"), .str (Str.ofString "test") k2, .ref tt⟩, ⟨PyData.keyHash P (Str.ofString "predicates"), .str (Str.ofString "predicates") k3, .ref tp⟩] ep))
    (f2 : h.get? tt = some (tupOf #[.str (Str.ofString "node") t2]))
    (f3 : h.get? tp = some (tupOf #[])) : StepAt P h a name
theorem StepAt.stays {P : Params} {h h' : Heap} {a : Addr} {name : Str} (x : StepAt P h a name) (st : h.StaysIn h') : StepAt P h' a name := by
  obtain ⟨d, tt, tp, k1, k2, k3, t1, t2, ep, e1, e2, e3, e4⟩ := x
  exact ⟨d, tt, tp, k1, k2, k3, t1, t2, ep, st _ _ e1, st _ _ e2, st _ _ e3, st _ _ e4⟩
theorem lay_24 : True := by
  k_with "S1323 subscriptTail" =>
    ((with_reducible show wpAny _ _ (subscriptTail _ _ (Value.ref _) (Value.int _ _)) _ _ _); k_dflt (refine item_tuple (by assumption) (by decide) (by decide) (by with_unfolding_all rfl) (by rfl) ?_))
  trivial
local macro_rules | `(tactic| walk_at "subscriptTail") => `(tactic| k_extra "S1323 subscriptTail")

set_option maxHeartbeats 4000000 in
theorem passes_spec (w : World) (t tt nm : Addr) (i : Nat) (tki ta t2 : Tok) (name : Str) (T : List NRow) (W : WF T) (hi : i < T.length) :
    RO1 w 168 [.ref t, .int i tki, .str name ta, .ref tt, .ref nm] 8 (fun h => Tree01 w h t T ∧ h.get? tt = some (tupOf #[.str (Str.ofString "node") t2])) (fun _ _ v => v = .bool true) := by
  intro A s Q E H hr hp hret
  obtain ⟨hp, htt⟩ := hp
  obtain ⟨dt, rl, tk1, ep1, I1⟩ := hp.inst
  have htt2 := tup_get htt
  have keep : ∀ h', s.heap.StaysIn h' → IsTup h' tt #[.str (Str.ofString "node") t2] := fun h' st => tup_get (st _ _ htt)
  walk_at "my_enter"
  walk_at "my_steps"
  exact hret _ _ _ (Fr.keep (by assumption)) rfl

set_option maxHeartbeats 4000000 in
theorem kept_spec (w : World) (l tp : Addr) (vo : Value) :
    RO1 w 208 [.ref l, .ref tp, vo] 6 (fun h => h.get? tp = some (tupOf #[])) (fun _ _ v => v = .ref l) := by
  intro A s Q E H hr htp hret
  have htp2 : s.heap.IsTuple tp (List.toArray []) := ⟨_, htp, rfl, _, rfl⟩
  walk_at "my_enter"
  walk_at "my_steps"
  rename Fr _ _ _ _ => F
  rename News _ _ _ _ => N
  have htL : tp ≠ _ := fun e => Nat.lt_irrefl _ (Nat.lt_of_lt_of_le (Heap.lt_size htp) (e ▸ F.above))
  refine iter_tup rfl (σ := Unit) (vs := []) (fun _ => []) (fun _ => []) [] (fun _ _ => True) () [] rfl (by obtain ⟨o, e, r⟩ := htp2; exact ⟨o, F.keep _ _ e, r⟩) htL F N (fun _ h => h) (by walk_at "my_nil") (by walk_at "my_nil") (by walk_at "my_nil") trivial ?_ ?_
  · rintro k v ⟨⟩ u h tk own hk hkl
    exact absurd hkl (Nat.not_lt_zero _)
  · rintro ⟨⟩ u h tk _ F N _
    walk_at "my_steps"
    exact hret _ _ _ (Fr.keep (by assumption)) rfl
theorem lay_25 : True := by
  k_with "S1324 call ref" =>
    (
      (with_reducible show wpAny _ _ (call (Value.ref 168) [Value.ref _, Value.int _ _, Value.str _ _, Value.ref _, Value.ref _]) _ _ _)
      k_dflt (
        refine ro_use (passes_spec _ _ _ _ _ _ _ _ _ _ (by assumption) (by walk_at "my_lt")) (by assumption) (by assumption) (by assumption) (by assumption) (by assumption) (by walk_at "my_room") (by walk_at "my_room") ⟨by walk_at "my_pre", Fr.keep (by assumption) _ _ (by assumption)⟩ ?_ rfl rfl
        intro _ _ _ _ _ _ e'
        subst e'
        (try k_sweep)))
  k_with "S1325 call ref" =>
    (
      (with_reducible show wpAny _ _ (call (Value.ref 208) [Value.ref _, Value.ref _, _]) _ _ _)
      k_dflt (
        refine ro_use (kept_spec _ _ _ _) (by assumption) (by assumption) (by assumption) (by assumption) (by assumption) (by walk_at "my_room") (by walk_at "my_room") (Fr.keep (by assumption) _ _ (by assumption)) ?_ rfl rfl
        intro _ _ _ _ _ _ e'
        subst e'
        (try k_sweep)))
  trivial
local macro_rules | `(tactic| walk_at "call ref") => `(tactic| k_extra "S1324 call ref")
local macro_rules | `(tactic| walk_at "call ref") => `(tactic| k_extra "S1325 call ref")

structure StL where
  ys : List Value
set_option maxHeartbeats 4000000 in
theorem step_from_spec (w : World) (t st nm : Addr) (i : Nat) (tki : Tok) (vo : Value) (name : Str) (T : List NRow) (W : WF T) (hi : i < T.length) (hn : name ∈ shortNames ++ longNames) :
    RO1 w 213 [.ref t, .int i tki, .ref st, .ref nm, vo] 18 (fun h => Tree01 w h t T ∧ StepAt w.params h st name) (fun h h' v => ListRes h h' v (axisL T i name)) := by
  intro A s Q E H hr hp hret
  obtain ⟨hp, d, tt, tp, k1, k2, k3, t1, t2, ep, e1, e2, e3, e4⟩ := hp
  obtain ⟨dt, rl, tk1, ep1, I1⟩ := hp.inst
  have I2 := mkInst e1 e2
  have hT := W.small
  have hzz := axis_len W hi name
  walk_at "my_enterC"
  walk_at "my_steps"
  rename_i L' h1 tk2 B X TT F hd' hu' on os ot dn ds dT N
  replace dn : on.data = .cell (some (.ref nm)) := dn
  replace ds : os.data = .cell (some (.ref st)) := ds
  replace dT : ot.data = .cell (some (.ref t)) := dT
  replace F : Fr s.heap L' h1 (fun y => if y = Str.ofString "value_of" then some vo else if y = Str.ofString "node" then some (.int i tki) else none) := F
  refine assign_comp (cl := [(Str.ofString "tree", L' + 1), (Str.ofString "step", L' + 1 + 1), (Str.ofString "names", L' + 1 + 1 + 1)]) F rfl rfl rfl (by decide) rfl (by decide) rfl rfl rfl ?_
  walk_at "my_steps"
  rename_i l1 vs c1 F N nv ll _ lN
  have hax : ∀ x ∈ axisL T i name, x < T.length := fun x hx => axis_lt W hi name hx
  refine comp_list (σ := StL) (fun _ => []) (fun c => c.ys) (fun k c => NV c.ys ((axisL T i name).take k)) ⟨[]⟩ [(l1, listOf vs.toArray c1), (L' + 1 + 1 + 1, on), (L' + 1 + 1, os), (L' + 1, ot)] rfl (by walk_at "my_list") (N (l1, listOf vs.toArray c1) (by k_mem)).2.1 (by rw [sizeLine_eq]; omega)
    F N (by walk_at "my_sub") (by walk_at "my_nil") (by walk_at "my_nil") rfl .nil ?_ ?_
  · rintro k v ⟨ys⟩ h tk own C oC m₂ E' hvi hi2 h1 hyl hC hoC hx F N hsep
    dsimp only at h1 hyl N hsep ⊢
    obtain ⟨n, tn, hn, rfl⟩ := nv.get hvi
    have hnb := hax n (List.mem_of_getElem? hn)
    have N2 : News s.heap L' h ((C, oC) :: (l1, listOf vs.toArray c1) :: (L' + 1 + 1 + 1, on) :: (L' + 1 + 1, os) :: (L' + 1, ot) :: own) := News.sub N (by walk_at "my_sub")
    walk_at "my_steps"
    refine CompEnd.intro (⟨ys ++ [.int n tn]⟩ : StL) (by assumption) (by assumption) (by walk_at "my_sub") rfl ?_ (by walk_at "my_nil")
    show NV (ys ++ [.int (n : Nat) tn]) _
    rw [List.take_add_one, hn]
    exact h1.app .one
  · rintro D ⟨ys⟩ h tk h1 hyl F N hD hsep
    dsimp only at h1 hyl N hsep hD ⊢
    walk_at "my_steps"
    refine hret _ _ _ (Fr.keep (by assumption)) (listRes_of (c := ys.length) (by assumption) (by k_mem) ?_ (by omega))
    rwa [nv.len, List.take_length] at h1
end
section
theorem lay_26 : True := by
  k_with "S1426 call ref" =>
    (
      (with_reducible show wpAny _ _ (call (Value.ref 220) [Value.ref _]) _ _ _)
      k_dflt (
        refine ro_useL (unlike_spec _ _ _ (by assumption) (by assumption)) (by assumption) (by assumption) (by assumption) (by assumption) (by assumption) (by walk_at "my_room") (by walk_at "my_room") (NList.mk (by walk_at "my_list") (by walk_at "my_nv")) ?_ rfl rfl
        intro _ _ _ _ _ _ _ l1 nv' ll' st'
        (first | (simp only [all_cons, all_nil, and_true] at l1; (try revert l1); revert nv' ll' st') | revert l1 nv' ll' st'); intros
        (try k_sweep)))
  k_with "S1427 call ref" =>
    (
      (with_reducible show wpAny _ _ (call (Value.ref 213) [Value.ref _, Value.int _ _, Value.ref _, Value.ref _, _]) _ _ _)
      k_dflt (
        refine ro_useL (step_from_spec _ _ _ _ _ _ _ _ _ (by assumption) (by walk_at "my_lt") (by assumption)) (by assumption) (by assumption) (by assumption) (by assumption) (by assumption) (by walk_at "my_room") (by walk_at "my_room") ⟨by walk_at "my_pre", StepAt.stays (by assumption) (Fr.keep (by assumption))⟩ ?_ rfl rfl
        intro _ _ _ _ _ _ _ l1 nv' ll' st'
        (first | (simp only [all_cons, all_nil, and_true] at l1; (try revert l1); revert nv' ll' st') | revert l1 nv' ll' st'); intros
        (try k_sweep)))
  trivial
local macro_rules | `(tactic| walk_at "call ref") => `(tactic| k_extra "S1426 call ref")
local macro_rules | `(tactic| walk_at "call ref") => `(tactic| k_extra "S1427 call ref")

set_option maxHeartbeats 4000000 in
theorem after_spec (w : World) (t l st nm : Addr) (vo : Value) (name : Str) (T : List NRow) (W : WF T) (r : Nat) (ns : List Nat) (hrT : r < T.length) (hrp : par T r = none) (hw : ∀ x ∈ ns, x ∈ walked T r) (hnz : ns.length < 60) (hnm : name ∈ shortNames ++ longNames) :
    RW1 w 227 [.ref t, .ref l, .ref st, .ref nm, vo] 22 (fun g h => Tree01 w g t T ∧ NList g l ns ∧ StepAt w.params g st name ∧ CodeHd g 193 191 ∧ ∃ tl, IoTab tl ∧ Hid g h tl)
      (fun g _ h' v => (∃ tl, IoTab tl ∧ Hid g h' tl) ∧ ListRes g h' v (stepL T r ns name)) := by
  intro A s g Q E H hst hsz hr hp hret
  obtain ⟨hp, ⟨vs, hl, hv⟩, hstep, hcd, tl, htl, hhid⟩ := hp
  obtain ⟨dt, rl, tk1, ep1, I1⟩ := hp.inst
  have hT := W.small
  have hb : ∀ x ∈ ns, x < T.length := fun x hx => (walked_mem W hrT x (hw x hx)).2
  have hvl := hv.len
  have hfl : (ns.flatMap fun n => axisL T n name).length ≤ 120 * ns.length := flatMap_le fun n hn => Nat.le_of_lt (axis_len W (hb n hn) name)
  walk_at "my_enterG"
  walk_at "my_steps"
  rename Fr _ _ _ _ => F
  rename News _ _ _ _ => N
  rename_i B X TT l0 hd' hu' fD _ lf _
  have hlt : ∀ p ∈ tl, @Ne Nat p.1 fD := fun p hp => Nat.ne_of_lt (lf p hp)
  refine iter_list rfl (σ := StF) (fun c => [(fD, listOf c.fv.toArray c.fn)]) (fun _ => []) [] (fun k c => NV c.fv c.fs ∧ c.fs = (ns.take k).flatMap fun n => axisL T n name) ⟨[], 0, []⟩ tl
    rfl (list_keep hl F) (base_ne_L F hl) F N (by walk_at "my_sub") (fun q hq p hp => by rw [List.mem_singleton.mp hq]; exact hlt p hp) (fun c p hp => by have := base_ne N hl; simp only [all_cons] at this; rw [List.mem_singleton.mp hp]; exact this.1) (by simp) ⟨.nil, rfl⟩ ?_ ?_
  · rintro k v ⟨fv, fn, fs⟩ u h tk own hk hkl ⟨nf, he⟩ F N hsep
    dsimp only at F N nf he hsep ⊢
    dsimp only [List.cons_append, List.nil_append] at N hsep
    simp only [all_cons, all_nil, and_true] at hsep
    obtain ⟨n, tn, hn, rfl⟩ := hv.get hk
    have hnb := hb n (List.mem_of_getElem? hn)
    have hz1 : fs.length < 65536 := by
      have h1 := flatMap_take_le (g := fun n => axisL T n name) ns k
      rw [he]; omega
    have hz2 := nf.len
    walk_at "my_steps"
    rename_i l2 vs2 c2 nv2 _ _ _ _ n2 F2 N2
    have he2 : fs ++ axisL T n name = (ns.take (k + 1)).flatMap fun n => axisL T n name := by rw [he]; exact (flatMap_take_succ hn).symm
    exact ForEnd.intro (⟨fv ++ vs2, n2, _⟩ : StF) F2 N2 (by walk_at "my_sub") ⟨nf.app nv2, he2⟩ (by walk_at "my_sep") (by walk_at "my_ps") (by walk_at "my_same")
  · rintro ⟨fv, fn, fs⟩ u h tk ⟨nf, he⟩ F N hsep
    dsimp only at F N nf he hsep ⊢
    dsimp only [List.cons_append, List.nil_append] at N hsep
    simp only [all_cons, all_nil, and_true] at hsep
    rw [hvl, List.take_length] at he
    have hz1 : fs.length < 65536 := by rw [he]; omega
    have hsub : ∀ x ∈ uniq fs, x ∈ walked T r := fun x hx => by
      rw [uniq_mem, he] at hx
      obtain ⟨n, hn, hx⟩ := List.mem_flatMap.mp hx
      exact axis_walked W hrT hrp (hw n hn) name hx
    have hzu : (uniq fs).length < 4096 := by
      have := nodup_len (uniq_nodup fs) (n := T.length) fun x hx => (walked_mem W hrT x (hsub x hx)).2
      omega
    have hz2 := nf.len
    walk_at "my_steps"
    rename_i l2 vs2 c2 F2 N2 nv2 _ _ l3
    refine rw_use (inorder_spec w t l2 T W r (uniq fs) hrT (uniq_nodup _) hsub) B X TT F2 N2 (by walk_at "my_room") (by walk_at "my_room") tl [(l2, listOf vs2.toArray c2)] (by walk_at "my_sub") (by walk_at "my_sub") (fun p hp q hq => by
        rw [List.mem_singleton.mp hp]; exact (l3.2 q hq).symm) (fun g' st1 h1 h2 st2 => ⟨hp.stays st1, ⟨vs2, ⟨_, h2 _ (.head _), rfl, _, rfl⟩, nv2⟩, hcd.keeps (fun b o e => st1 b o e), tl, htl, h1⟩) ?_ rfl rfl
    rintro g' h' tk' r' F' N' st1 hl kp ⟨⟨tl2, htl2, hh2⟩, la, va, ca, e1, e2, e3, e4, e5⟩
    refine hret _ _ _ F'.keep ⟨⟨tl2, htl2, hid_of (hl tl2 hh2)⟩, la, va, ca, e1, e2, ?_, ?_, ?_⟩
    · have : stepL T r ns name = (walked T r).filter fun x => decide (x ∈ uniq fs) := by
        unfold stepL
        apply List.filter_congr
        intro x hx
        apply decide_eq_decide.mpr
        rw [uniq_mem, he, List.mem_flatMap]
      rw [this]; exact e3
    · cases q : g.get? la with
      | none => rfl
      | some o => have := st1 _ _ q; rw [e4] at this; cases this
    · exact Nat.lt_of_le_of_lt (List.length_filter_le _ _) (Nat.lt_trans (walked_len W hrT) (by decide))
end
section
structure StS where
  l : Addr
  ts : List (Addr × Obj)
  tl : List (Addr × Obj)
  vs : List Value
set_option maxHeartbeats 4000000 in
theorem stepsfrom_spec (w : World) (t l sl nm : Addr) (vo : Value) (nms : List Str) (T : List NRow) (W : WF T) (r : Nat) (ns : List Nat) (hrT : r < T.length) (hrp : par T r = none) (hw : ∀ x ∈ ns, x ∈ walked T r) (hnz : ns.length < 60) (hnm : ∀ x ∈ nms, x ∈ shortNames ++ longNames) (hn0 : 0 < nms.length) :
    RW1 w 234 [.ref t, .ref l, .ref sl, .ref nm, vo] 26 (fun g h => Tree01 w g t T ∧ NList g l ns ∧ (∃ svs, g.IsList sl (List.toArray svs) ∧ Lined (StepAt w.params g) svs nms) ∧ CodeHd g 193 191 ∧ ∃ tl, IoTab tl ∧ Hid g h tl)
      (fun g _ h' v => (∃ tl, IoTab tl ∧ Hid g h' tl) ∧ ListRes g h' v (stepsL T r ns nms)) := by
  intro A s g Q E H hst hsz hr hp hret
  obtain ⟨hp, ⟨vs, hl, hv⟩, ⟨svs, hsl, hlin⟩, hcd, tl, htl, hhid⟩ := hp
  obtain ⟨dt, rl, tk1, ep1, I1⟩ := hp.inst
  have hT := W.small
  have hvl := hv.len
  have hsvl := hlin.len
  walk_at "my_enterG"
  walk_at "my_steps"
  rename Fr _ _ _ _ => F
  rename News _ _ _ _ => N
  rename Below _ _ _ _ => B
  rename Frag.In _ _ => X
  rename Top _ _ _ _ _ _ => TT
  have hslL := base_ne_L F hsl
  have hlL := base_ne_L F hl
  refine iter_listJ rfl (σ := StS) (fun c => c.ts ++ c.tl) (fun c => [(Str.ofString "nodes", .ref c.l)]) [] (fun k c => IoTab c.tl ∧ NV c.vs (stepsL T r ns (nms.take k)) ∧ (∀ p ∈ c.ts ++ c.tl, g.get? p.1 = none) ∧ (∀ p ∈ c.ts, ∀ q ∈ c.tl, @Ne Nat p.1 q.1) ∧ ((k = 0 ∧ c.l = l ∧ c.ts = [] ∧ c.vs = vs) ∨ ∃ n, c.ts = [(c.l, listOf c.vs.toArray n)])) ⟨l, [], tl, vs⟩ []
    rfl (list_keep hsl F) hslL F N (by walk_at "my_sub") (by simp) (fun k c hJ p hp e => by
      have h0 := hJ.2.2.1 p hp
      obtain ⟨o, ho, _⟩ := hsl
      have e' : p.1 = sl := e
      rw [e', ho] at h0; cases h0) (by walk_at "my_ps") ⟨htl, by simpa [stepsL] using hv, fun p hp => (hhid p (by simpa using hp)).2, by simp, .inl ⟨rfl, rfl, rfl, rfl⟩⟩ ?_ ?_
  · rintro k v ⟨l1, ts, tl1, vs1⟩ u h tk own hk hkl ⟨ht1, hv1, hnone, hsp, hcase⟩ F N hsep
    dsimp only at F N ht1 hv1 hnone hsp hcase hsep ⊢
    obtain ⟨sa, nm1, rfl, hnk, hsa⟩ := hlin.get hk
    have hw1 := stepsL_in hw (nms.take k)
    have hz1 := stepsL_len W hrT hnz (nms.take k)
    have hnm1 := hnm nm1 (List.mem_of_getElem? hnk)
    rename_i h1 l0 hd' hu' _
    walk_at "my_steps"
    have hkeepG : ∀ g', g.StaysIn g' → (∀ p ∈ ts ++ own, g'.get? p.1 = some p.2) → NList g' l1 (stepsL T r ns (nms.take k)) := by
      intro g' st1 h2
      rcases hcase with ⟨rfl, rfl, rfl, rfl⟩ | ⟨n, rfl⟩
      · obtain ⟨o, ho, hr2⟩ := hl
        exact ⟨vs1, ⟨o, st1 _ _ ho, hr2⟩, hv1⟩
      · exact ⟨vs1, ⟨_, h2 _ (.head _), rfl, _, rfl⟩, hv1⟩
    refine rw_use (after_spec w t l1 sa nm vo nm1 T W r (stepsL T r ns (nms.take k)) hrT hrp hw1 hz1 hnm1) B X TT F N (by walk_at "my_room") (by walk_at "my_room") tl1 (ts ++ own) (by walk_at "my_sub") (by walk_at "my_sub") (fun p hp q hq => ?_)
      (fun g' st1 h1 h2 st2 => ⟨hp.stays st1, hkeepG g' st1 h2, hsa.stays st1, hcd.keeps (fun b o e => st1 b o e), tl1, ht1, h1⟩) ?_ rfl rfl
    · rcases List.mem_append.mp hp with hp | hp
      · exact hsp p hp q hq
      · exact hsep q (List.mem_append_right _ hq) p (by simpa using hp)
    rintro g' h' tk' r' F' N' st1 hl1 kp ⟨⟨tl2, htl2, hh2⟩, la, va, ca, rfl, e2, e3, e4, e5⟩
    have N3 : News g _ h' ((la, listOf va.toArray ca) :: (tl2 ++ (ts ++ own))) := fun p hp => by
      rcases List.mem_cons.mp hp with rfl | hp
      · exact hl1 [(la, listOf va.toArray ca)] (fun q hq => by rw [List.mem_singleton.mp hq]; exact ⟨e2, e4⟩) _ (.head _)
      · rcases List.mem_append.mp hp with hp | hp
        · exact hl1 tl2 hh2 p hp
        · exact N' p hp
    walk_at "my_steps"
    refine ForEnd.intro (⟨la, [(la, listOf va.toArray ca)], tl2, va⟩ : StS) (by assumption) (by assumption) (by walk_at "my_sub") ⟨htl2, ?_, ?_, ?_, .inr ⟨ca, rfl⟩⟩ ?_ (by walk_at "my_ps") (by walk_at "my_same")
    · dsimp only; rw [stepsL_next T r ns hnk]; exact e3
    · intro p hp
      exact (N3 p (by simp only [List.cons_append, List.nil_append, List.mem_cons, List.mem_append] at hp ⊢; rcases hp with hp | hp <;> simp [hp])).2.2
    · intro p hp q hq
      rw [List.mem_singleton.mp hp]
      exact tab_list_ne htl2 hh2 e2 q hq
    · intro q hq p hp e
      have e' : p.1 = q.1 := e
      have h1 := kp p (List.mem_append_right _ (by simpa using hp))
      rw [e'] at h1
      rcases List.mem_append.mp hq with hq | hq
      · rw [List.mem_singleton.mp hq, e4] at h1; cases h1
      · rw [(hh2 q hq).2] at h1; cases h1
  · rintro ⟨l1, ts, tl1, vs1⟩ u h tk ⟨ht1, hv1, hnone, hsp, hcase⟩ F N hsep
    dsimp only at F N ht1 hv1 hnone hsp hcase hsep ⊢
    rw [hsvl, List.take_length] at hv1
    walk_at "my_steps"
    rcases hcase with ⟨h0, _⟩ | ⟨n, rfl⟩
    · omega
    · refine hret _ _ _ (Fr.keep F) ⟨⟨tl1, ht1, hid_of (News.sub N (by walk_at "my_sub"))⟩, l1, vs1, n, rfl, (N _ (.head _)).1, hv1, hnone _ (.head _), ?_⟩
      exact Nat.lt_trans (stepsL_len W hrT hnz nms) (by decide)
end
section
local macro_rules | `(tactic| walk_at "my_none") => `(tactic| skip)
set_option maxHeartbeats 4000000 in
theorem step_new_spec (w : World) (tt tp : Addr) (tn : Tok) (name : Str) :
    RO1 w 474 [.str name tn, .ref tt, .ref tp] 6 (fun _ => True) (fun h h' v => ∃ (a d : Addr) (k1 k2 k3 t1 ep : Nat), v = .ref a ∧ h'.get? a = some (instObj 474 d) ∧
      h'.get? d = some (dictOf [⟨PyData.keyHash w.params (Str.ofString "axis"), .str (Str.ofString "axis") k1, .str name t1⟩, ⟨PyData.keyHash w.params (Str.ofString "test"), .str (Str.ofString "test") k2, .ref tt⟩, ⟨PyData.keyHash w.params (Str.ofString "predicates"), .str (Str.ofString "predicates") k3, .ref tp⟩] ep) ∧
      h.get? a = none ∧ h.get? d = none ∧ @LT.lt Nat _ d a) := by
  intro A s Q E H hr _ hret
  walk_at "my_enterCls"
  walk_at "my_steps"
  rename_i x dx _ _ _ l1 _ _ _ _ _ _ F N
  exact hret _ _ _ F.keep ⟨x, dx, _, _, _, _, _, rfl, (N _ (.head _)).1, (N _ (.tail _ (.head _))).1, (N _ (.head _)).2.2, (N _ (.tail _ (.head _))).2.2, l1⟩
structure StO where
  ys : List Value
  os : List (Addr × Obj)
set_option maxHeartbeats 4000000 in
theorem led_spec (w : World) (t l nl : Addr) (nms : List Str) (T : List NRow) (W : WF T) (r : Nat) (ns : List Nat) (hrT : r < T.length) (hrp : par T r = none) (hw : ∀ x ∈ ns, x ∈ walked T r) (hnz : ns.length < 60) (hnm : ∀ x ∈ nms, x ∈ shortNames ++ longNames) (hn0 : 0 < nms.length) (hn1 : nms.length < 60) :
    RW1 w 539 [.ref t, .ref l, .ref nl] 30 (fun g h => Tree01 w g t T ∧ NList g l ns ∧ SList g nl nms ∧ CodeHd g 193 191 ∧ ∃ tl, IoTab tl ∧ Hid g h tl)
      (fun g _ h' v => (∃ tl, IoTab tl ∧ Hid g h' tl) ∧ ListRes g h' v (stepsL T r ns nms)) := by
  intro A s g Q E H hst hsz hr hp hret
  obtain ⟨hp, ⟨vs, hl, hv⟩, ⟨nvs, hnl, hnv⟩, hcd, tl, htl, hhid⟩ := hp
  obtain ⟨dt, rl, tk1, ep1, I1⟩ := hp.inst
  have hT := W.small
  have hvl := hv.len
  have hnvl := hnv.len
  walk_at "my_enterG"
  walk_at "my_steps"
  rename Fr _ _ _ _ => F
  rename News _ _ _ _ => N
  rename Below _ _ _ _ => B
  rename Frag.In _ _ => X
  rename Top _ _ _ _ _ _ => TT
  refine eval_comp (cl := []) F rfl (by decide) rfl (by decide) rfl ?_
  walk_at "my_steps"
  refine comp_list (σ := StO) (fun c => c.os) (fun c => c.ys) (fun k c => Lined (fun a n => ∀ h', (∀ p ∈ c.os, h'.get? p.1 = some p.2) → StepAt w.params h' a n) c.ys (nms.take k)) ⟨[], []⟩ tl rfl (list_keep hnl F) (base_ne_L F hnl) (by rw [sizeLine_eq]; omega)
    F N (by walk_at "my_sub") (by walk_at "my_nil") (by walk_at "my_nil") rfl trivial ?_ ?_
  · rintro k v ⟨ys, os⟩ h tk own C oC m₂ E' hvi hi2 h1 hyl hC hoC hx F N hsep
    dsimp only at h1 hyl N hsep ⊢
    obtain ⟨nm1, tn, hn, rfl⟩ := hnv.get hvi
    have N2 : News g _ h ((C, oC) :: (os ++ (tl ++ own))) := News.sub N (by walk_at "my_sub")
    clear N
    walk_at "my_steps"
    rename Fr _ _ _ _ => F
    rename News _ _ _ _ => N
    rename_i tt' _ ltt tp' _ ltp
    refine ro_use (step_new_spec w _ _ tn nm1) B X TT F N (by walk_at "my_room") (by walk_at "my_room") trivial ?_ rfl rfl
    rintro h' tk' r' F' N' st' ⟨a, d, k1, k2, k3, t1, ep, rfl, e1, e2, e3, e4, l4⟩
    have N3 := news_in F (news_in F N' st' e2 e4) st' e1 e3
    have hap := allLt_mem ltp.2.2
    have hat := allLt_mem ltt.2
    walk_at "my_steps"
    refine CompEnd.intro (⟨ys ++ [.ref a], (a, instObj 474 d) :: (d, dictOf [⟨PyData.keyHash w.params (Str.ofString "axis"), .str (Str.ofString "axis") k1, .str nm1 t1⟩, ⟨PyData.keyHash w.params (Str.ofString "test"), .str (Str.ofString "test") k2, .ref tt'⟩, ⟨PyData.keyHash w.params (Str.ofString "predicates"), .str (Str.ofString "predicates") k3, .ref tp'⟩] ep) :: (tp', tupOf #[]) :: (tt', tupOf #[.str (Str.ofString "node") tk]) :: os⟩ : StO) F' N3 (by walk_at "my_sub") rfl ?_ ?_
    · dsimp only
      rw [List.take_add_one, hn]
      refine Lined.snoc (h1.mono fun a n hh h' hq => hh h' fun p hp => hq p (.tail _ (.tail _ (.tail _ (.tail _ hp))))) ?_
      intro h2 hq
      exact ⟨d, tt', tp', _, _, _, _, _, _, hq _ (.head _), hq _ (.tail _ (.head _)), hq _ (.tail _ (.tail _ (.tail _ (.head _)))), hq _ (.tail _ (.tail _ (.head _)))⟩
    · intro q hq p hp
      have hpN := (N p (.tail _ (.tail _ (.tail _ (List.mem_append_right _ hp))))).1
      rcases List.mem_cons.mp hq with rfl | hq
      · exact ne_none e3 hpN
      · rcases List.mem_cons.mp hq with rfl | hq
        · exact ne_none e4 hpN
        · rcases List.mem_cons.mp hq with rfl | hq
          · exact Nat.ne_of_lt (hap p (List.mem_append_right _ hp))
          · rcases List.mem_cons.mp hq with rfl | hq
            · exact Nat.ne_of_lt (hat p (List.mem_append_right _ hp))
            · exact hsep q hq p hp
  · rintro D ⟨ys, os⟩ h tk h1 hyl F N hD hsep
    dsimp only at h1 hyl N hsep hD ⊢
    rw [hnvl, List.take_length] at h1
    walk_at "my_steps"
    rename Fr _ _ _ _ => F
    rename News _ _ _ _ => N
    rename_i _ _ l0' hd' hu' d1 _ o1 _ _ _ _ _ ld1
    refine rw_use (stepsfrom_spec w t l D d1 _ nms T W r ns hrT hrp hw hnz hnm hn0) B X TT F N (by walk_at "my_room") (by walk_at "my_room") tl ((d1, o1) :: (D, LCg.lst ys) :: os) (by walk_at "my_sub") (by walk_at "my_sub") ?_
      (fun g' st1 h1' h2 st2 => ⟨hp.stays st1, ?_, ⟨ys, ⟨_, h2 (D, LCg.lst ys) (.tail _ (.head _)), rfl, _, rfl⟩, h1.mono fun a n hh => hh g' fun p hp => h2 p (.tail _ (.tail _ hp))⟩, hcd.keeps (fun b o e => st1 b o e), tl, htl, h1'⟩) ?_ rfl rfl
    · intro p hp q hq
      have hqd := allLt_mem ld1.2 q (List.mem_append_right _ hq)
      rcases List.mem_cons.mp hp with rfl | hp
      · exact Nat.ne_of_gt hqd
      · rcases List.mem_cons.mp hp with rfl | hp
        · exact (hD q (List.mem_append_right _ hq)).symm
        · exact (hsep p hp q hq).symm
    · obtain ⟨o, ho, hr2⟩ := hl
      exact ⟨vs, ⟨o, st1 _ _ ho, hr2⟩, hv⟩
    rintro g' h' tk' r' F' N' st1 hl1 kp ⟨⟨tl2, htl2, hh2⟩, la, va, ca, rfl, e2, e3, e4, e5⟩
    refine hret _ _ _ F'.keep ⟨⟨tl2, htl2, hid_of (hl1 tl2 hh2)⟩, la, va, ca, rfl, e2, e3, ?_, e5⟩
    cases q : g.get? la with
    | none => rfl
    | some o => have := st1 _ _ q; rw [e4] at this; cases this
end
section
inductive Src (h : Heap) (l : Addr) : Prop
  | ik (d m : Int) (td tm : Tok) (c : Nat)
    (f0 : h.get? l = some (listOf #[.int d td, .int m tm] c))
    (f1 : 0 ≤ d)
    (f2 : 0 ≤ m)
    (f3 : m < 2147483647) : Src h l
structure StP where
  d : Int
  m : Int
  td : Tok
  tm : Tok
set_option maxHeartbeats 4000000 in
theorem pool_spec (w : World) (sc : Addr) (ns : List Int) (hz : ns.length < 64) :
    RO1 w 485 [.ref sc] 8 (fun h => ∃ vs, h.IsList sc (List.toArray vs) ∧ IntsAre vs ns) (fun h h' v => ∃ l, v = .ref l ∧ Src h' l ∧ h.get? l = none) := by
  intro A s Q E H hr hp hret
  obtain ⟨vs, hl, hv⟩ := hp
  have hvl := IntsAre.length hv
  walk_at "my_enter"
  walk_at "my_steps"
  rename Fr _ _ _ _ => F
  rename News _ _ _ _ => N
  refine iter_list rfl (σ := StP) (fun _ => []) (fun c => [(Str.ofString "digits", .int c.d c.td), (Str.ofString "mixed", .int c.m c.tm)]) [Str.ofString "size"] (fun k c => 0 ≤ c.d ∧ 0 ≤ c.m ∧ c.m < 2147483647) ⟨0, 47, _, _⟩ []
    rfl (list_keep hl F) (base_ne_L F hl) F N (by walk_at "my_mem") (by walk_at "my_nil") (by walk_at "my_nil") (by walk_at "my_ps") ⟨Int.le_refl _, by (show (0:Int) ≤ 47; decide), by (show (47:Int) < 2147483647; decide)⟩ ?_ ?_
  · rintro k v ⟨d, m, td, tm⟩ u h tk own hk hkl ⟨h1, h2, h3⟩ F N hsep
    dsimp only at F N h1 h2 h3 hsep ⊢
    obtain ⟨n, tn, hn, rfl⟩ : ∃ n t, ns[k]? = some n ∧ v = .int n t := by
      have hi : k < ns.length := by omega
      obtain ⟨t, ht⟩ := IntsAre.get hv k _ (List.getElem?_eq_getElem hi)
      rw [hk] at ht
      exact ⟨_, t, List.getElem?_eq_getElem hi, Option.some.inj ht⟩
    walk_at "my_steps"
    all_goals
      refine ForEnd.intro (⟨_, _, _, _⟩ : StP) (by assumption) (by assumption) (by walk_at "my_mem") ⟨?_, ?_, ?_⟩ (by walk_at "my_sep") (by walk_at "my_ps") (by walk_at "my_same")
    all_goals dsimp only
    all_goals first | assumption | omega | exact Int.fmod_nonneg_of_pos _ (by decide) | exact Int.fmod_lt_of_pos _ (by decide)
  · rintro ⟨d, m, td, tm⟩ u h tk ⟨h1, h2, h3⟩ F N hsep
    dsimp only at F N h1 h2 h3 hsep ⊢
    walk_at "my_steps"
    rename Fr _ _ _ _ => F
    rename News _ _ _ _ => N
    exact hret _ _ _ F.keep ⟨_, rfl, ⟨d, m, td, tm, 0, (N _ (.head _)).1, h1, h2, h3⟩, (N _ (.head _)).2.2⟩
end
noncomputable abbrev TreeLL (w : World) := TreeL 441 252 w.params
section
local macro_rules | `(tactic| walk_at "my_none") => `(tactic| skip)
set_option maxHeartbeats 4000000 in
theorem node_new_spec (w : World) (kind name uri loc value : Str) (c1 c2 c3 c4 c5 : Tok) (po : Option Nat) (pv : Value) (hpv : PVal po pv) :
    RO1 w 252 [.str kind c1, .str name c2, .str uri c3, .str loc c4, .str value c5, pv] 6 (fun _ => True) (fun h h' v => ∃ m : RowM, v = .ref m.a ∧ m.r = ⟨kind, name, uri, loc, value, po, [], [], []⟩ ∧ m.ok ∧
      Hid h h' (m.objs 252 w.params) ∧ (m.objs 252 w.params).Pairwise fun p q => @Ne Nat p.1 q.1) := by
  intro A s Q E H hr _ hret
  walk_at "my_enterCls"
  walk_at "my_steps"
  rename Fr _ _ _ _ => F
  rename News _ _ _ _ => N
  rename_i x dx _ _ _ lx _ _ _ _ _ _ _ _ _ lc _ l2 _ _ la _ l3 _ _ ln _ l4 _
  have hN := hid_of N
  exact hret _ _ _ F.keep (RowM.made hpv (hid_of N) lx (by omega) (by omega) (by omega))
set_option maxHeartbeats 4000000 in
theorem new_rowM_spec (w : World) (M : TreeM) (tag : Addr → Nat × Nat) (ho : M.ok tag) (kind name uri loc value : Str) (c1 c2 c3 c4 c5 : Tok) (po : Option Nat) (pv : Value) (hpv : PVal po pv) (hml : M.ms.length < 60) :
    RW1 w 277 [.ref M.t, .str kind c1, .str name c2, .str uri c3, .str loc c4, .str value c5, pv] 10 (fun g h => Hid g h (M.led 441 252 w.params))
      (fun g _ h' v => ∃ (m : RowM) (e : Nat) (tag' : Addr → Nat × Nat), m.r = ⟨kind, name, uri, loc, value, po, [], [], []⟩ ∧ TreeM.ok { M with ms := M.ms ++ [m], ep2 := e } tag' ∧ Hid g h' (TreeM.led 441 252 w.params { M with ms := M.ms ++ [m], ep2 := e }) ∧ ∃ tk, v = .int M.ms.length tk) := by
  intro A s g Q E H hst hsz hr hhid hret
  have hvl := M.vs_len
  walk_at "my_enterG"
  have hall : ∀ p ∈ (M.t, instObj 441 M.dt) :: (M.dt, dictOf [⟨PyData.keyHash w.params (Str.ofString "rows"), .str (Str.ofString "rows") M.tk, .ref M.rl⟩] M.ep1) :: but (M.led 441 252 w.params) M.rl, p.1 ≠ M.rl := by
    refine List.forall_mem_cons.mpr ⟨ne_tag ho.t ho.rl (fun e => nomatch e), List.forall_mem_cons.mpr ⟨ne_tag ho.dt ho.rl (fun e => nomatch e), but_ne⟩⟩
  rename Fr _ _ _ _ => F
  rename News _ _ _ _ => N
  rename Below _ _ _ _ => B
  rename Frag.In _ _ => X
  rename Top _ _ _ _ _ _ => TT
  have N2 := News.sub N (l' := (M.rl, listOf M.vs.toArray M.ep2) :: (M.t, instObj 441 M.dt) :: (M.dt, dictOf [⟨PyData.keyHash w.params (Str.ofString "rows"), .str (Str.ofString "rows") M.tk, .ref M.rl⟩] M.ep1) :: but (M.led 441 252 w.params) M.rl) (by
    intro p hp
    rcases List.mem_cons.mp hp with rfl | hp
    · exact .tail _ (.tail _ (.head _))
    rcases List.mem_cons.mp hp with rfl | hp
    · exact .head _
    rcases List.mem_cons.mp hp with rfl | hp
    · exact .tail _ (.head _)
    · exact but_sub p hp)
  clear N
  walk_at "my_steps"
  refine ro_use (node_new_spec w kind name uri loc value _ _ _ _ _ po pv hpv) B X TT F N2 (by walk_at "my_room") (by walk_at "my_room") trivial ?_ rfl rfl
  rintro h' tk' r' F' N' st' ⟨m, rfl, hmr, hmo, hmh, hmd⟩
  have N3 := News.sub (news_hid F N' hmh) (l' := (M.rl, listOf M.vs.toArray M.ep2) :: (M.t, instObj 441 M.dt) :: (M.dt, dictOf [⟨PyData.keyHash w.params (Str.ofString "rows"), .str (Str.ofString "rows") M.tk, .ref M.rl⟩] M.ep1) :: (m.objs 252 w.params ++ but (M.led 441 252 w.params) M.rl)) (by walk_at "my_sub")
  have hall2 : ∀ p ∈ (M.t, instObj 441 M.dt) :: (M.dt, dictOf [⟨PyData.keyHash w.params (Str.ofString "rows"), .str (Str.ofString "rows") M.tk, .ref M.rl⟩] M.ep1) :: (m.objs 252 w.params ++ but (M.led 441 252 w.params) M.rl), p.1 ≠ M.rl := by
    refine List.forall_mem_cons.mpr ⟨hall _ (.head _), List.forall_mem_cons.mpr ⟨hall _ (.tail _ (.head _)), fun p hp => ?_⟩⟩
    rcases List.mem_append.mp hp with hp | hp
    · exact hid_ne hmh (N2 _ (.head _)).1 p hp
    · exact but_ne p hp
  have hmn : ∀ p ∈ m.objs 252 w.params, ∀ q ∈ M.led 441 252 w.params, @Ne Nat q.1 p.1 := fun p hp q hq => by
    by_cases hq2 : q.1 = M.rl
    · rw [hq2]; exact (hid_ne hmh (N2 _ (.head _)).1 p hp).symm
    · exact (hid_ne hmh (N2 q (.tail _ (.tail _ (.tail _ (but_mem hq hq2))))).1 p hp).symm
  clear N' N2 hall
  walk_at "my_steps"
  rename News _ _ _ _ => N4
  obtain ⟨⟨tag', ho'⟩, hs'⟩ := TreeM.push ho hmo (M.ep2 + 1) hmd hmn
  refine hret _ _ _ (Fr.keep (by assumption)) ⟨m, M.ep2 + 1, tag', hmr, ho', ?_, ?_⟩
  · intro p hp
    refine hid_of N4 p ?_
    rcases hs' p hp with rfl | hp | ⟨hp, hne⟩
    · exact .head _
    · exact .tail _ (.tail _ (.tail _ (List.mem_append_left _ hp)))
    · exact .tail _ (.tail _ (.tail _ (List.mem_append_right _ (but_mem hp hne))))
  · exact int_ex (by simp [hvl])
theorem new_row_spec (w : World) (t : Addr) (kind name uri loc value : Str) (c1 c2 c3 c4 c5 : Tok) (po : Option Nat) (pv : Value) (hpv : PVal po pv) (T : List NRow) (hT : T.length < 60) :
    RW1 w 277 [.ref t, .str kind c1, .str name c2, .str uri c3, .str loc c4, .str value c5, pv] 10 (fun g h => ∃ l, TreeLL w t T l ∧ Hid g h l)
      (fun g _ h' v => (∃ l, TreeLL w t (T ++ [⟨kind, name, uri, loc, value, po, [], [], []⟩]) l ∧ Hid g h' l) ∧ ∃ tk, v = .int T.length tk) := by
  intro A s g Q E H hst hsz hr hp hret
  obtain ⟨l, ⟨M, tag, rfl, rfl, ho, rfl⟩, hhid⟩ := hp
  refine new_rowM_spec w M tag ho kind name uri loc value c1 c2 c3 c4 c5 po pv hpv (by simpa using hT) A s g Q E H hst hsz hr hhid ?_
  rintro h' tk' r st' ⟨m, e, tag', hmr, ho', hh', tk, rfl⟩
  exact hret _ _ _ st' ⟨⟨_, ⟨{ M with ms := M.ms ++ [m], ep2 := e }, tag', rfl, by simp [hmr], ho', rfl⟩, hh'⟩, int_ex (by simp)⟩
end
section
set_option maxHeartbeats 4000000 in
theorem tree_new_spec (w : World) :
    RO1 w 441 [] 6 (fun _ => True) (fun h h' v => ∃ (t : Addr) (l : List (Addr × Obj)), v = .ref t ∧ TreeLL w t [] l ∧ Hid h h' l) := by
  intro A s Q E H hr _ hret
  walk_at "my_enterCls"
  walk_at "my_steps"
  rename Fr _ _ _ _ => F
  rename News _ _ _ _ => N
  rename_i x dx _ _ _ l1 _ _ _ rl _ l2 _
  exact hret _ _ _ F.keep (TreeL.made (hid_of N) l1 l2.1)
set_option maxHeartbeats 4000000 in
theorem new_root_spec (w : World) (t : Addr) (T : List NRow) (hT : T.length < 60) :
    RW1 w 291 [.ref t] 14 (fun g h => ∃ l, TreeLL w t T l ∧ Hid g h l)
      (fun g _ h' v => (∃ l, TreeLL w t (T ++ [⟨sRoot, Str.ofString "", Str.ofString "", Str.ofString "", Str.ofString "", none, [], [], []⟩]) l ∧ Hid g h' l) ∧ ∃ tk, v = .int T.length tk) := by
  intro A s g Q E H hst hsz hr hp hret
  obtain ⟨l, htl, hhid⟩ := hp
  obtain ⟨M, tag, rfl, rfl, ho, rfl⟩ := id htl
  walk_at "my_enterG"
  rename Fr _ _ _ _ => F
  rename News _ _ _ _ => N
  rename Below _ _ _ _ => B
  rename Frag.In _ _ => X
  rename Top _ _ _ _ _ _ => TT
  have N2 := News.sub N (l' := M.top 441 w.params (M.ms.flatMap (RowM.objs 252 w.params))) (fun p hp => hp)
  clear N
  walk_at "my_steps"
  refine rw_use (new_row_spec w M.t sRoot (Str.ofString "") (Str.ofString "") (Str.ofString "") (Str.ofString "") _ _ _ _ _ none _ PVal.none _ hT) B X TT F N2 (by walk_at "my_room") (by walk_at "my_room") (M.led 441 252 w.params) [] (fun p hp => hp) (fun _ hp => nomatch hp) (fun _ hp => nomatch hp) (fun g' _ hh _ _ => ⟨_, htl, hh⟩) ?_ rfl rfl
  rintro g' h' tk' r' F' N' st1 hl1 kp ⟨⟨l2, htl2, hh2⟩, tk2, rfl⟩
  walk_at "my_steps"
  exact hret _ _ _ F'.keep ⟨⟨l2, htl2, hid_of (hl1 l2 hh2)⟩, _, rfl⟩
noncomputable def addKid (T : List NRow) (i : Nat) (ri r : NRow) : List NRow := (T ++ [r]).set i { ri with children := ri.children ++ [T.length] }
set_option maxHeartbeats 4000000 in
theorem add_child_spec (w : World) (t : Addr) (i : Nat) (ti : Tok) (kind name uri loc value : Str) (c1 c2 c3 c4 c5 : Tok) (T : List NRow) (hT : T.length < 60) (ri : NRow) (hi : T[i]? = some ri) (hk : ri.kind = sElem ∨ ri.kind = sRoot) (hcl : ri.children.length < 60) :
    RW1 w 298 [.ref t, .int i ti, .str kind c1, .str name c2, .str uri c3, .str loc c4, .str value c5] 14 (fun g h => ∃ l, TreeLL w t T l ∧ Hid g h l)
      (fun g _ h' v => (∃ l, TreeLL w t (addKid T i ri ⟨kind, name, uri, loc, value, some i, [], [], []⟩) l ∧ Hid g h' l) ∧ ∃ tk, v = .int T.length tk) := by
  intro A s g Q E H hst hsz hr hp hret
  obtain ⟨l, htl, hhid⟩ := hp
  obtain ⟨M, tag, rfl, hMT, ho, rfl⟩ := id htl
  walk_at "my_enterG"
  rename Fr _ _ _ _ => F
  rename News _ _ _ _ => N
  rename Below _ _ _ _ => B
  rename Frag.In _ _ => X
  rename Top _ _ _ _ _ _ => TT
  have N2 := News.sub N (l' := M.top 441 w.params (M.ms.flatMap (RowM.objs 252 w.params))) (fun p hp => hp)
  clear N
  walk_at "my_steps"
  refine ro_use (row_spec w M.t i ti T ri hi (by omega)) B X TT F N2 (by walk_at "my_room") (by walk_at "my_room") (htl.at fun p hp => (N2 p hp).1) ?_ rfl rfl
  rintro h' tk' r' F' N' st' ⟨a, rfl, d, lc, la, ln, k1, k2, k3, k4, k5, k6, k7, k8, k9, t1, t2, t3, t4, t5, ep, pv, e1, e2, e3⟩
  have I1 := mkInst e1 e2
  clear N2 F
  have hks : ([Str.ofString "root", Str.ofString "element"].any fun x => x == ri.kind) = true := by
    rcases hk with e | e <;> rw [e] <;> decide
  walk_at "my_steps"
  rename Fr _ _ _ _ => F
  rename News _ _ _ _ => N
  refine rw_use (new_row_spec w M.t kind name uri loc value _ _ _ _ _ (some i) _ (PVal.some i _) T hT) B X TT F N (by walk_at "my_room") (by walk_at "my_room") (M.led 441 252 w.params) [] (fun p hp => hp) (fun _ hp => nomatch hp) (fun _ hp => nomatch hp) (fun g' _ hh _ _ => ⟨_, htl, hh⟩) ?_ rfl rfl
  rintro g2 h2 tk2 r2 F2 - st1 hl1 kp ⟨⟨l2, ⟨M2, tag2, hMt, hMT2, ho2, rfl⟩, hh2⟩, tk3, rfl⟩
  have hi2 : (T ++ [⟨kind, name, uri, loc, value, some i, [], [], []⟩])[i]? = some ri := by
    rw [List.getElem?_append_left (List.getElem?_eq_some_iff.mp hi).1]; exact hi
  obtain ⟨m, hm, hmr, hmv⟩ := TreeM.get hMT2 hi2
  obtain ⟨N2, hall⟩ := TreeM.pick_lc ho2 hm (hl1 _ hh2)
  have hms : m.vc.length < 60 := by
    rw [(ho2.row i m hm).1.c.len, hmr]; exact hcl
  have hvl := M2.vs_len
  have hml : M2.ms.length < 61 := by
    have : (M2.ms.map (·.r)).length = _ := congrArg List.length hMT2
    simp at this; omega
  have hi3 : i < 2 ^ 24 := by have := (List.getElem?_eq_some_iff.mp hi).1; omega
  rw [← hMt] at F2 hret
  clear F N st' e1 e2 I1
  walk_at "my_steps"
  rename Fr _ _ _ _ => F
  rename News _ _ _ _ => N
  obtain ⟨l4, hl4, hh4⟩ := TreeM.lay_lc ho2 hm (hid_of N)
  rw [hMT2, hmr] at hl4
  exact hret _ _ _ F.keep ⟨⟨l4, hl4, hh4⟩, _, rfl⟩
end
section
local macro_rules | `(tactic| walk_at "my_none") => `(tactic| skip)
set_option maxHeartbeats 4000000 in
theorem add_element_spec (w : World) (t : Addr) (i : Nat) (ti : Tok) (name uri loc : Str) (c1 c2 c3 : Tok) (T : List NRow) (hT : T.length < 60) (ri : NRow) (hi : T[i]? = some ri) (hk : ri.kind = sElem ∨ ri.kind = sRoot) (hcl : ri.children.length < 60) :
    RW1 w 305 [.ref t, .int i ti, .str name c1, .str uri c2, .str loc c3] 18 (fun g h => ∃ l, TreeLL w t T l ∧ Hid g h l)
      (fun g _ h' v => (∃ l, TreeLL w t (addKid T i ri ⟨sElem, name, uri, loc, Str.ofString "", some i, [], [], []⟩) l ∧ Hid g h' l) ∧ ∃ tk, v = .int T.length tk) := by
  intro A s g Q E H hst hsz hr hp hret
  obtain ⟨l, htl, hhid⟩ := hp
  obtain ⟨M, tag, rfl, rfl, ho, rfl⟩ := id htl
  walk_at "my_enterG"
  rename Fr _ _ _ _ => F
  rename News _ _ _ _ => N
  rename Below _ _ _ _ => B
  rename Frag.In _ _ => X
  rename Top _ _ _ _ _ _ => TT
  have N2 := News.sub N (l' := M.top 441 w.params (M.ms.flatMap (RowM.objs 252 w.params))) (fun p hp => hp)
  clear N
  walk_at "my_steps"
  refine rw_use (add_child_spec w M.t i ti sElem name uri loc (Str.ofString "") _ _ _ _ _ _ hT ri hi hk hcl) B X TT F N2 (by walk_at "my_room") (by walk_at "my_room") (M.led 441 252 w.params) [] (fun p hp => hp) (fun _ hp => nomatch hp) (fun _ hp => nomatch hp) (fun g' _ hh _ _ => ⟨_, htl, hh⟩) ?_ rfl rfl
  rintro g' h' tk' r' F' N' st1 hl1 kp ⟨⟨l2, htl2, hh2⟩, tk2, rfl⟩
  walk_at "my_steps"
  exact hret _ _ _ F'.keep ⟨⟨l2, htl2, hid_of (hl1 l2 hh2)⟩, _, rfl⟩
set_option maxHeartbeats 4000000 in
theorem add_text_spec (w : World) (t : Addr) (i : Nat) (ti : Tok) (value : Str) (c1 : Tok) (T : List NRow) (hT : T.length < 60) (ri : NRow) (hi : T[i]? = some ri) (hk : ri.kind = sElem ∨ ri.kind = sRoot) (hcl : ri.children.length < 60) :
    RW1 w 312 [.ref t, .int i ti, .str value c1] 18 (fun g h => ∃ l, TreeLL w t T l ∧ Hid g h l)
      (fun g _ h' v => (∃ l, TreeLL w t (addKid T i ri ⟨(Str.ofString "text"), Str.ofString "", Str.ofString "", Str.ofString "", value, some i, [], [], []⟩) l ∧ Hid g h' l) ∧ ∃ tk, v = .int T.length tk) := by
  intro A s g Q E H hst hsz hr hp hret
  obtain ⟨l, htl, hhid⟩ := hp
  obtain ⟨M, tag, rfl, rfl, ho, rfl⟩ := id htl
  walk_at "my_enterG"
  rename Fr _ _ _ _ => F
  rename News _ _ _ _ => N
  rename Below _ _ _ _ => B
  rename Frag.In _ _ => X
  rename Top _ _ _ _ _ _ => TT
  have N2 := News.sub N (l' := M.top 441 w.params (M.ms.flatMap (RowM.objs 252 w.params))) (fun p hp => hp)
  clear N
  walk_at "my_steps"
  refine rw_use (add_child_spec w M.t i ti (Str.ofString "text") (Str.ofString "") (Str.ofString "") (Str.ofString "") value _ _ _ _ _ _ hT ri hi hk hcl) B X TT F N2 (by walk_at "my_room") (by walk_at "my_room") (M.led 441 252 w.params) [] (fun p hp => hp) (fun _ hp => nomatch hp) (fun _ hp => nomatch hp) (fun g' _ hh _ _ => ⟨_, htl, hh⟩) ?_ rfl rfl
  rintro g' h' tk' r' F' N' st1 hl1 kp ⟨⟨l2, htl2, hh2⟩, tk2, rfl⟩
  walk_at "my_steps"
  exact hret _ _ _ F'.keep ⟨⟨l2, htl2, hid_of (hl1 l2 hh2)⟩, _, rfl⟩
set_option maxHeartbeats 4000000 in
theorem add_comment_spec (w : World) (t : Addr) (i : Nat) (ti : Tok) (value : Str) (c1 : Tok) (T : List NRow) (hT : T.length < 60) (ri : NRow) (hi : T[i]? = some ri) (hk : ri.kind = sElem ∨ ri.kind = sRoot) (hcl : ri.children.length < 60) :
    RW1 w 319 [.ref t, .int i ti, .str value c1] 18 (fun g h => ∃ l, TreeLL w t T l ∧ Hid g h l)
      (fun g _ h' v => (∃ l, TreeLL w t (addKid T i ri ⟨(Str.ofString "comment"), Str.ofString "", Str.ofString "", Str.ofString "", value, some i, [], [], []⟩) l ∧ Hid g h' l) ∧ ∃ tk, v = .int T.length tk) := by
  intro A s g Q E H hst hsz hr hp hret
  obtain ⟨l, htl, hhid⟩ := hp
  obtain ⟨M, tag, rfl, rfl, ho, rfl⟩ := id htl
  walk_at "my_enterG"
  rename Fr _ _ _ _ => F
  rename News _ _ _ _ => N
  rename Below _ _ _ _ => B
  rename Frag.In _ _ => X
  rename Top _ _ _ _ _ _ => TT
  have N2 := News.sub N (l' := M.top 441 w.params (M.ms.flatMap (RowM.objs 252 w.params))) (fun p hp => hp)
  clear N
  walk_at "my_steps"
  refine rw_use (add_child_spec w M.t i ti (Str.ofString "comment") (Str.ofString "") (Str.ofString "") (Str.ofString "") value _ _ _ _ _ _ hT ri hi hk hcl) B X TT F N2 (by walk_at "my_room") (by walk_at "my_room") (M.led 441 252 w.params) [] (fun p hp => hp) (fun _ hp => nomatch hp) (fun _ hp => nomatch hp) (fun g' _ hh _ _ => ⟨_, htl, hh⟩) ?_ rfl rfl
  rintro g' h' tk' r' F' N' st1 hl1 kp ⟨⟨l2, htl2, hh2⟩, tk2, rfl⟩
  walk_at "my_steps"
  exact hret _ _ _ F'.keep ⟨⟨l2, htl2, hid_of (hl1 l2 hh2)⟩, _, rfl⟩
end
section
inductive RowOf (w : World) (h : Heap) (t : Addr) (i : Nat) (a : Addr) : Prop
  | ik (dt rl : Addr) (k ep1 ep2 : Nat) (vs : List Value)
    (f0 : h.get? t = some (instObj 441 dt))
    (f1 : h.get? dt = some (dictOf [⟨PyData.keyHash w.params (Str.ofString "rows"), .str (Str.ofString "rows") k, .ref rl⟩] ep1))
    (f2 : h.get? rl = some (listOf vs.toArray ep2))
    (f3 : vs[i]? = some (.ref a))
    (f4 : vs.length < 100) : RowOf w h t i a
theorem RowOf.stays {w : World} {h h' : Heap} {t a : Addr} {i : Nat} (H : RowOf w h t i a) (st : h.StaysIn h') : RowOf w h' t i a := by
  obtain ⟨dt, rl, k, ep1, ep2, vs, e1, e2, e3, e4, e5⟩ := H
  exact ⟨dt, rl, k, ep1, ep2, vs, st _ _ e1, st _ _ e2, st _ _ e3, e4, e5⟩
set_option maxHeartbeats 4000000 in
theorem row_of_spec (w : World) (t : Addr) (i : Nat) (ti : Tok) (a : Addr) :
    RO1 w 284 [.ref t, .int i ti] 3 (fun h => RowOf w h t i a) (fun _ _ v => v = .ref a) := by
  intro A s Q E H hr hp hret
  obtain ⟨dt, rl, tk, ep1, ep2, vs, e1, e2, e3, ha, hvs⟩ := hp
  have I1 := mkInst e1 e2
  have L1 : s.heap.IsList rl vs.toArray := ⟨_, e3, rfl, _, rfl⟩
  have hi2 : i < vs.length := (List.getElem?_eq_some_iff.mp ha).1
  have hi1 : i < 2 ^ 24 := by omega
  walk_at "my_enter"
  walk_at "my_steps"
  exact hret _ _ _ (Fr.keep (by assumption)) rfl
set_option maxHeartbeats 4000000 in
theorem element_row_spec (w : World) (t : Addr) (i : Nat) (ti : Tok) (a : Addr) (r : NRow) (hk : r.kind = sElem) :
    RO1 w 333 [.ref t, .int i ti] 6 (fun h => RowOf w h t i a ∧ RowAt 252 w.params h a r) (fun _ _ v => v = .ref a) := by
  intro A s Q E H hr hp hret
  obtain ⟨hp, d, lc, la, ln, k1, k2, k3, k4, k5, k6, k7, k8, k9, t1, t2, t3, t4, t5, ep, pv, e1, e2, e3⟩ := hp
  have I1 := mkInst e1 e2
  rw [hk] at I1
  obtain ⟨dt, rl, k, ep1, ep2, vs, f1, f2, f3⟩ := id hp
  have I0 := mkInst f1 f2
  walk_at "my_enter"
  rename Fr _ _ _ _ => F
  rename News _ _ _ _ => N
  rename Below _ _ _ _ => B
  rename Frag.In _ _ => X
  rename Top _ _ _ _ _ _ => TT
  walk_at "my_steps"
  refine ro_use (row_of_spec w t i ti a) B X TT F N (by walk_at "my_room") (by walk_at "my_room") (by exact hp.stays F.keep) ?_ rfl rfl
  rintro h' tk' r' F' N' st' rfl
  walk_at "my_steps"
  exact hret _ _ _ (Fr.keep (by assumption)) rfl
theorem lay_27 : True := by
  k_with "S2128 setAttr ref" =>
    (
      (with_reducible show wpAny _ _ (setAttr (Value.ref _) _ _) _ _ _)
      k_dflt (refine' set_dict ?q25k1 ?q25k2 ?q25k3 ?q25k4 ?q25k5 ?q25k6 ?q25k7 ?q25k8 ?q25k9 ?q25k10 ?q25k11 ?q25k12 ?q25k13 ?_; (case q25k1 => k_asm); (case q25k2 => k_asm); (case q25k3 => k_asm); (case q25k4 => k_inst); (case q25k5 => exact rfl); (case q25k6 => k_is); (case q25k7 => k_is); (case q25k8 => k_is); (case q25k9 => k_is); (case q25k10 => k_get); (case q25k11 => first | exact put_name _ _ _ _ _ _ _ _ _ _ _ _ _ _ _ _ _ _ _ _ _ _ _ | exact put_value _ _ _ _ _ _ _ _ _ _ _ _ _ _ _ _ _ _ _ _ _ _ _); (case q25k12 => exact Upd.head (by assumption)); (case q25k13 => exact Nat.le_of_ble_eq_true rfl); intro _ _ _; (try k_sweep)))
  trivial
local macro_rules | `(tactic| walk_at "setAttr ref") => `(tactic| k_extra "S2128 setAttr ref")

set_option maxHeartbeats 4000000 in
theorem set_attribute_spec (w : World) (t : Addr) (i : Nat) (ti : Tok) (name uri loc value : Str) (c1 c2 c3 c4 : Tok) (T : List NRow) (W : WF T) (ri : NRow) (hi : T[i]? = some ri) (hk : ri.kind = sElem) :
    RW1 w 340 [.ref t, .int i ti, .str name c1, .str uri c2, .str loc c3, .str value c4] 18 (fun g h => ∃ l, TreeLL w t T l ∧ Hid g h l)
      (fun g _ h' v => ∃ (T' : List NRow) (l : List (Addr × Obj)), TreeLL w t T' l ∧ Hid g h' l ∧ ((∃ (j : Nat) (rj : NRow) (nm vl : Str), T[j]? = some rj ∧ T' = T.set j { rj with name := nm, value := vl }) ∨ T' = List.set (T ++ [(⟨sAttr, name, uri, loc, value, some i, [], [], []⟩ : NRow)]) i { ri with attrs := ri.attrs ++ [T.length] })) := by
  intro A s g Q E H hst hsz hr hp hret
  obtain ⟨l, htl, hhid⟩ := hp
  obtain ⟨M, tag, rfl, hMT, ho, rfl⟩ := id htl
  obtain ⟨m, hm, hmr, hmv⟩ := TreeM.get hMT hi
  have hvl := M.vs_len
  have hml : M.ms.length < 60 := by have := W.small; rw [← hMT] at this; simpa using this
  have hva := (ho.row i m hm).1.t
  have hal : m.va.length < 60 := by rw [hva.len, hmr, ← atts_of hi]; exact atts_len W i
  walk_at "my_enterG"
  rename Fr _ _ _ _ => F
  rename News _ _ _ _ => N
  rename Below _ _ _ _ => B
  rename Frag.In _ _ => X
  rename Top _ _ _ _ _ _ => TT
  have N2 := News.sub N (l' := M.view 441 252 w.params m) (TreeM.view_sub hm)
  clear N
  walk_at "my_steps"
  refine ro_use (element_row_spec w M.t i ti m.a ri hk) B X TT F N2 (by walk_at "my_room") (by walk_at "my_room") ?_ ?_ rfl rfl
  · refine ⟨⟨M.dt, M.rl, M.tk, M.ep1, M.ep2, M.vs, (N2 _ (.head _)).1, (N2 _ (.tail _ (.head _))).1, (N2 _ (.tail _ (.tail _ (.head _)))).1, hmv, by omega⟩, ?_⟩
    rw [← hmr]
    exact RowM.at _ _ (ho.row i m hm).1 fun p hp => (N2 p (.tail _ (.tail _ (.tail _ (.tail _ (.tail _ (.tail _ (.tail _ (.tail _ (TreeM.mem_row hm p hp)))))))))).1
  rintro h' tk' r' F' N' st' rfl
  walk_at "my_steps"
  rename Fr _ _ _ _ => F
  rename News _ _ _ _ => N
  refine iter_list rfl (σ := Unit) (fun _ => []) (fun _ => []) [Str.ofString "known"] (fun _ _ => True) () (M.led 441 252 w.params) rfl (by walk_at "my_list") (N _ (.tail _ (.tail _ (.tail _ (.tail _ (.tail _ (.tail _ (.head _)))))))).2.1 F N
    (fun p hp => .tail _ (.tail _ (.tail _ (.tail _ (.tail _ (.tail _ (.tail _ (.tail _ hp)))))))) (by walk_at "my_nil") (by walk_at "my_nil") (by walk_at "my_nil") trivial ?_ ?_
  · rintro k v ⟨⟩ u h tk own hvk hkl _ F N hsep
    dsimp only at F N ⊢
    obtain ⟨j, tj, hj, rfl⟩ := hva.get hvk
    rw [hmr] at hj
    have hja := W.att i j (by rw [atts_of hi]; exact List.mem_of_getElem? hj)
    obtain ⟨rj, hrj⟩ : ∃ rj, T[j]? = some rj := ⟨_, List.getElem?_eq_getElem hja.2.1⟩
    obtain ⟨mj, hmj, hmjr, hmjv⟩ := TreeM.get hMT hrj
    have hj3 : j < 2 ^ 24 := by have := W.small; omega
    cases hq1 : mj.r.uri == uri with
    | false =>
      have N3 := News.sub N (l' := M.view 441 252 w.params mj ++ own) (fun p hp => List.mem_append_right _ ((List.mem_append.mp hp).elim (fun hp => List.mem_append_left _ (TreeM.view_sub hmj p hp)) (List.mem_append_right _)))
      dsimp only [List.cons_append] at N3
      clear N
      walk_at "my_steps"
      exact ForEnd.intro () (by assumption) (by assumption) (fun p hp => .tail _ (.tail _ (.tail _ (.tail _ (.tail _ (.tail _ (.tail _ (.tail _ (show p ∈ _ ++ own by simpa using hp))))))))) trivial (by walk_at "my_nil") (by walk_at "my_nil") (by walk_at "my_same")
    | true =>
      cases hq2 : mj.r.loc == loc with
      | false =>
        have N3 := News.sub N (l' := M.view 441 252 w.params mj ++ own) (fun p hp => List.mem_append_right _ ((List.mem_append.mp hp).elim (fun hp => List.mem_append_left _ (TreeM.view_sub hmj p hp)) (List.mem_append_right _)))
        dsimp only [List.cons_append] at N3
        clear N
        walk_at "my_steps"
        exact ForEnd.intro () (by assumption) (by assumption) (fun p hp => .tail _ (.tail _ (.tail _ (.tail _ (.tail _ (.tail _ (.tail _ (.tail _ (show p ∈ _ ++ own by simpa using hp))))))))) trivial (by walk_at "my_nil") (by walk_at "my_nil") (by walk_at "my_same")
      | true =>
        obtain ⟨N3, hall⟩ := TreeM.pick_d ho hmj (News.sub N (l' := M.led 441 252 w.params) (fun p hp => List.mem_append_right _ (List.mem_append_left _ hp)))
        clear N
        walk_at "my_steps"
        rename Fr _ _ _ _ => F
        rename News _ _ _ _ => N
        obtain ⟨l4, hl4, hh4⟩ := TreeM.lay_d ho hmj (hid_of N)
        rw [hMT, hmjr] at hl4
        exact hret _ _ _ F.keep ⟨_, l4, hl4, hh4, .inl ⟨j, rj, _, _, hrj, rfl⟩⟩
  · rintro ⟨⟩ u h tk _ F N hsep
    dsimp only at F N ⊢
    have N2 := News.sub N (l' := M.view 441 252 w.params m) (fun p hp => (TreeM.view_sub hm p hp))
    clear N
    walk_at "my_steps"
    refine rw_use (new_rowM_spec w M tag ho sAttr name uri loc value _ _ _ _ _ (some i) _ (PVal.some i _) hml) B X TT F N2 (by walk_at "my_room") (by walk_at "my_room") (M.led 441 252 w.params) [] (fun p hp => .tail _ (.tail _ (.tail _ (.tail _ (.tail _ (.tail _ (.tail _ (.tail _ hp)))))))) (fun _ hp => nomatch hp) (fun _ hp => nomatch hp) (fun g' _ hh _ _ => hh) ?_ rfl rfl
    rintro g2 h2 tk2 r2 F2 - st1 hl1 kp ⟨m', e, tag2, hmr', ho2, hh2, tk3, rfl⟩
    have hm2 : (TreeM.ms { M with ms := M.ms ++ [m'], ep2 := e })[i]? = some m := by
      show (M.ms ++ [m'])[i]? = some m
      rw [List.getElem?_append_left (List.getElem?_eq_some_iff.mp hm).1]; exact hm
    obtain ⟨N3, hall⟩ := TreeM.pick_la ho2 hm2 (hl1 _ hh2)
    clear F N2
    walk_at "my_steps"
    rename Fr _ _ _ _ => F
    rename News _ _ _ _ => N
    obtain ⟨l4, hl4, hh4⟩ := TreeM.lay_la ho2 hm2 (hid_of N)
    refine hret _ _ _ F.keep ⟨_, l4, hl4, hh4, .inr ?_⟩
    rw [List.map_append, hMT, hmr]
    simp [hmr', ← hMT]
end
section
theorem lay_28 : True := by
  k_with "S2229 setAttr ref" =>
    (
      (with_reducible show wpAny _ _ (setAttr (Value.ref _) _ _) _ _ _)
      k_dflt (refine' set_dict ?q26k1 ?q26k2 ?q26k3 ?q26k4 ?q26k5 ?q26k6 ?q26k7 ?q26k8 ?q26k9 ?q26k10 ?q26k11 ?q26k12 ?q26k13 ?_; (case q26k1 => k_asm); (case q26k2 => k_asm); (case q26k3 => k_asm); (case q26k4 => k_inst); (case q26k5 => exact rfl); (case q26k6 => k_is); (case q26k7 => k_is); (case q26k8 => k_is); (case q26k9 => k_is); (case q26k10 => k_get); (case q26k11 => first | exact put_name _ _ _ _ _ _ _ _ _ _ _ _ _ _ _ _ _ _ _ _ _ _ _ | exact put_value _ _ _ _ _ _ _ _ _ _ _ _ _ _ _ _ _ _ _ _ _ _ _); (case q26k12 => exact Upd.head (by assumption)); (case q26k13 => exact Nat.le_of_ble_eq_true rfl); intro _ _ _; (try k_sweep)))
  trivial
local macro_rules | `(tactic| walk_at "setAttr ref") => `(tactic| k_extra "S2229 setAttr ref")

set_option maxHeartbeats 4000000 in
theorem add_namespace_spec (w : World) (t : Addr) (i : Nat) (ti : Tok) (pfx uri : Str) (c1 c2 : Tok) (T : List NRow) (W : WF T) (ri : NRow) (hi : T[i]? = some ri) (hk : ri.kind = sElem) :
    RW1 w 347 [.ref t, .int i ti, .str pfx c1, .str uri c2] 18 (fun g h => ∃ l, TreeLL w t T l ∧ Hid g h l)
      (fun g _ h' v => ∃ (T' : List NRow) (l : List (Addr × Obj)), TreeLL w t T' l ∧ Hid g h' l ∧ ((∃ (j : Nat) (rj : NRow) (nm vl : Str), T[j]? = some rj ∧ T' = T.set j { rj with name := nm, value := vl }) ∨ T' = List.set (T ++ [(⟨sNs, pfx, Str.ofString "", pfx, uri, some i, [], [], []⟩ : NRow)]) i { ri with nss := ri.nss ++ [T.length] })) := by
  intro A s g Q E H hst hsz hr hp hret
  obtain ⟨l, htl, hhid⟩ := hp
  obtain ⟨M, tag, rfl, hMT, ho, rfl⟩ := id htl
  obtain ⟨m, hm, hmr, hmv⟩ := TreeM.get hMT hi
  have hvl := M.vs_len
  have hml : M.ms.length < 60 := by have := W.small; rw [← hMT] at this; simpa using this
  have hva := (ho.row i m hm).1.n
  have hal : m.vn.length < 60 := by rw [hva.len, hmr, ← nsps_of hi]; exact nsps_len W i
  walk_at "my_enterG"
  rename Fr _ _ _ _ => F
  rename News _ _ _ _ => N
  rename Below _ _ _ _ => B
  rename Frag.In _ _ => X
  rename Top _ _ _ _ _ _ => TT
  have N2 := News.sub N (l' := M.view 441 252 w.params m) (TreeM.view_sub hm)
  clear N
  walk_at "my_steps"
  refine ro_use (element_row_spec w M.t i ti m.a ri hk) B X TT F N2 (by walk_at "my_room") (by walk_at "my_room") ?_ ?_ rfl rfl
  · refine ⟨⟨M.dt, M.rl, M.tk, M.ep1, M.ep2, M.vs, (N2 _ (.head _)).1, (N2 _ (.tail _ (.head _))).1, (N2 _ (.tail _ (.tail _ (.head _)))).1, hmv, by omega⟩, ?_⟩
    rw [← hmr]
    exact RowM.at _ _ (ho.row i m hm).1 fun p hp => (N2 p (.tail _ (.tail _ (.tail _ (.tail _ (.tail _ (.tail _ (.tail _ (.tail _ (TreeM.mem_row hm p hp)))))))))).1
  rintro h' tk' r' F' N' st' rfl
  walk_at "my_steps"
  rename Fr _ _ _ _ => F
  rename News _ _ _ _ => N
  refine iter_list rfl (σ := Unit) (fun _ => []) (fun _ => []) [] (fun _ _ => True) () (M.led 441 252 w.params) rfl (by walk_at "my_list") (N _ (.tail _ (.tail _ (.tail _ (.tail _ (.tail _ (.tail _ (.tail _ (.head _))))))))).2.1 F N
    (fun p hp => .tail _ (.tail _ (.tail _ (.tail _ (.tail _ (.tail _ (.tail _ (.tail _ hp)))))))) (by walk_at "my_nil") (by walk_at "my_nil") (by walk_at "my_nil") trivial ?_ ?_
  · rintro k v ⟨⟩ u h tk own hvk hkl _ F N hsep
    dsimp only at F N ⊢
    obtain ⟨j, tj, hj, rfl⟩ := hva.get hvk
    rw [hmr] at hj
    have hja := W.nsp i j (by rw [nsps_of hi]; exact List.mem_of_getElem? hj)
    obtain ⟨rj, hrj⟩ : ∃ rj, T[j]? = some rj := ⟨_, List.getElem?_eq_getElem hja.2.1⟩
    obtain ⟨mj, hmj, hmjr, hmjv⟩ := TreeM.get hMT hrj
    have hj3 : j < 2 ^ 24 := by have := W.small; omega
    cases hq1 : mj.r.name == pfx with
    | false =>
      have N3 := News.sub N (l' := M.view 441 252 w.params mj ++ own) (fun p hp => List.mem_append_right _ ((List.mem_append.mp hp).elim (fun hp => List.mem_append_left _ (TreeM.view_sub hmj p hp)) (List.mem_append_right _)))
      dsimp only [List.cons_append] at N3
      clear N
      walk_at "my_steps"
      exact ForEnd.intro () (by assumption) (by assumption) (fun p hp => .tail _ (.tail _ (.tail _ (.tail _ (.tail _ (.tail _ (.tail _ (.tail _ (show p ∈ _ ++ own by simpa using hp))))))))) trivial (by walk_at "my_nil") (by walk_at "my_nil") (by walk_at "my_same")
    | true =>
      obtain ⟨N3, hall⟩ := TreeM.pick_d ho hmj (News.sub N (l' := M.led 441 252 w.params) (fun p hp => List.mem_append_right _ (List.mem_append_left _ hp)))
      clear N
      walk_at "my_steps"
      rename Fr _ _ _ _ => F
      rename News _ _ _ _ => N
      obtain ⟨l4, hl4, hh4⟩ := TreeM.lay_d ho hmj (hid_of N)
      rw [hMT, hmjr] at hl4
      exact hret _ _ _ F.keep ⟨_, l4, hl4, hh4, .inl ⟨j, rj, _, _, hrj, rfl⟩⟩
  · rintro ⟨⟩ u h tk _ F N hsep
    dsimp only at F N ⊢
    have N2 := News.sub N (l' := M.view 441 252 w.params m) (fun p hp => (TreeM.view_sub hm p hp))
    clear N
    walk_at "my_steps"
    refine rw_use (new_rowM_spec w M tag ho sNs pfx (Str.ofString "") pfx uri _ _ _ _ _ (some i) _ (PVal.some i _) hml) B X TT F N2 (by walk_at "my_room") (by walk_at "my_room") (M.led 441 252 w.params) [] (fun p hp => .tail _ (.tail _ (.tail _ (.tail _ (.tail _ (.tail _ (.tail _ (.tail _ hp)))))))) (fun _ hp => nomatch hp) (fun _ hp => nomatch hp) (fun g' _ hh _ _ => hh) ?_ rfl rfl
    rintro g2 h2 tk2 r2 F2 - st1 hl1 kp ⟨m', e, tag2, hmr', ho2, hh2, tk3, rfl⟩
    have hm2 : (TreeM.ms { M with ms := M.ms ++ [m'], ep2 := e })[i]? = some m := by
      show (M.ms ++ [m'])[i]? = some m
      rw [List.getElem?_append_left (List.getElem?_eq_some_iff.mp hm).1]; exact hm
    obtain ⟨N3, hall⟩ := TreeM.pick_ln ho2 hm2 (hl1 _ hh2)
    clear F N2
    walk_at "my_steps"
    rename Fr _ _ _ _ => F
    rename News _ _ _ _ => N
    obtain ⟨l4, hl4, hh4⟩ := TreeM.lay_ln ho2 hm2 (hid_of N)
    refine hret _ _ _ F.keep ⟨_, l4, hl4, hh4, .inr ?_⟩
    rw [List.map_append, hMT, hmr]
    simp [hmr', ← hMT]
end
section
inductive SrcO (o : Obj) : Prop
  | ik (d m : Int) (td tm : Tok) (c : Nat)
    (f0 : o = listOf [Value.int d td, .int m tm].toArray c)
    (f1 : 0 ≤ d)
    (f2 : 0 ≤ m)
    (f3 : m < 2147483647) : SrcO o
theorem Src.o {h : Heap} {l : Addr} (H : Src h l) : ∃ o, SrcO o ∧ h.get? l = some o := by
  obtain ⟨d, m, td, tm, c, e, h1, h2, h3⟩ := H
  exact ⟨_, ⟨d, m, td, tm, c, rfl, h1, h2, h3⟩, e⟩
theorem nat_int {a : Int} {n : Nat} (h0 : 0 ≤ a) (h : a < n) (t : Tok) : ∃ (r : Nat) (t' : Tok), Value.int a t = .int (r : Nat) t' ∧ r < n := ⟨a.toNat, t, by rw [Int.toNat_of_nonneg h0], by omega⟩
theorem mod_any {prog : Program} {w : World} {A : Around} {E : Value → Shared → Prop} {s : Shared} {a b : Int} {t u : Tok} {Q : Value → Shared → Prop} (hb : 0 < b) (h : ∀ (r : Int) (t' : Tok) (k : Nat), 0 ≤ r → r < b → Q (.int r t') { s with toks := k }) :
    wpAny (model prog w) A (binaryOp .Mod (.int a t) (.int b u)) Q E s := mod_int' (by omega) (h _ _ _ (Int.fmod_nonneg_of_pos _ hb) (Int.fmod_lt_of_pos _ hb))
theorem div_any {prog : Program} {w : World} {A : Around} {E : Value → Shared → Prop} {s : Shared} {a b : Int} {t u : Tok} {Q : Value → Shared → Prop} (ha : 0 ≤ a) (hb : 0 < b) (hz : b < 1000) (h : ∀ (r : Int) (t' : Tok) (k : Nat), 0 ≤ r → Q (.int r t') { s with toks := k }) :
    wpAny (model prog w) A (binaryOp .FloorDiv (.int a t) (.int b u)) Q E s := floordiv_int (by omega) (h _ _ _ (Int.fdiv_nonneg ha (by omega))) (Or.inl (PyProof.noPylong_small (by omega)))
theorem lay_29 : True := by
  k_with "S2330 binaryOp Mod int int" =>
    ((refine mod_any (by omega) ?_); intro _ _ _ _ _)
  k_with "S2331 binaryOp FloorDiv int int" =>
    ((refine div_any (by omega) (by omega) (by omega) ?_); intro _ _ _ _)
  k_with "S2332 binaryOp Mult int int" =>
    (refine mul_int ?_ (IntMulOk.of_left (intBits_le_64 (by (show _ ≤ (_ : Int)); simp; omega) (by (show (_ : Int) ≤ _); simp; omega))))
  trivial
local macro_rules | `(tactic| walk_at "binaryOp Mod int int") => `(tactic| k_extra "S2330 binaryOp Mod int int")
local macro_rules | `(tactic| walk_at "binaryOp FloorDiv int int") => `(tactic| k_extra "S2331 binaryOp FloorDiv int int")
local macro_rules | `(tactic| walk_at "binaryOp Mult int int") => `(tactic| k_extra "S2332 binaryOp Mult int int")

set_option maxHeartbeats 4000000 in
theorem take_spec (w : World) (sr : Addr) (top : Nat) (tt : Tok) (h0 : 0 < top) (h1 : top < 1000) :
    RW1 w 492 [.ref sr, .int top tt] 4 (fun g h => ∃ o, SrcO o ∧ Hid g h [(sr, o)])
      (fun g _ h' v => (∃ o, SrcO o ∧ Hid g h' [(sr, o)]) ∧ ∃ (r : Nat) (t : Tok), v = .int r t ∧ r < top) := by
  intro A s g Q E H hst hsz hr hp hret
  obtain ⟨o, ⟨d, m, td, tm, c, rfl, b1, b2, b3⟩, hhid⟩ := hp
  walk_at "my_enterG"
  walk_at "my_steps"
  all_goals
    rename Fr _ _ _ _ => F
    rename News _ _ _ _ => N
    refine hret _ _ _ F.keep ⟨⟨_, ⟨_, _, _, _, _, rfl, ?_, ?_, ?_⟩, hid_of N⟩, nat_int (by assumption) (by assumption) _⟩
  all_goals omega
set_option maxHeartbeats 4000000 in
theorem one_spec (w : World) (sr tl : Addr) (vs : List Value) (h0 : 0 < vs.length) (h1 : vs.length < 1000) :
    RW1 w 499 [.ref sr, .ref tl] 8 (fun g h => (∃ o, SrcO o ∧ Hid g h [(sr, o)]) ∧ g.IsList tl vs.toArray)
      (fun g _ h' v => (∃ o, SrcO o ∧ Hid g h' [(sr, o)]) ∧ v ∈ vs) := by
  intro A s g Q E H hst hsz hr hp hret
  obtain ⟨⟨o, ho, hhid⟩, hl⟩ := hp
  walk_at "my_enterG"
  walk_at "my_steps"
  rename Fr _ _ _ _ => F
  rename News _ _ _ _ => N
  rename Below _ _ _ _ => B
  rename Frag.In _ _ => X
  rename Top _ _ _ _ _ _ => TT
  refine rw_use (take_spec w sr vs.length _ h0 h1) B X TT F N (by walk_at "my_room") (by walk_at "my_room") [(sr, o)] [] (fun p hp => hp) (fun _ hp => nomatch hp) (fun _ hp => nomatch hp) (fun g' _ hh _ _ => ⟨o, ho, hh⟩) ?_ rfl rfl
  rintro g' h' tk' r' F' N' st1 hl1 kp ⟨⟨o2, ho2, hh2⟩, k, tk2, rfl, hk⟩
  have hk2 : vs[k]? = some vs[k] := List.getElem?_eq_getElem hk
  clear F N N'
  have N2 := hl1 _ hh2
  walk_at "my_steps"
  exact hret _ _ _ F'.keep ⟨⟨o2, ho2, hid_of N2⟩, List.getElem_mem hk⟩
end
section
section
variable {w : World} {A₀ : Around} {base g : Heap} {outer : List Env} {p : Program} {loose : List Str} {mean : ExcName → Option Value} {mg mb : Str → Option Value} {d u : Nat} {gd : Option (List Code)} {L : Addr} {m : Str → Option Value} {env : Env}
  {f : Addr} {vals : List Value} {n : Nat} {s : Shared} {Q E : Value → Shared → Prop} {news : List (Addr × Obj)}
theorem one_use {sr Dv : Addr} {vs : List Value} {c : Nat} {o : Obj} (h0 : 0 < vs.length) (h1 : vs.length < 1000) (ho : SrcO o) (B : Below A₀ base outer g) (X : (hd.heap_1 w.params).In g) (T : Top p loose mean mg mb g) (F : Fr g L s.heap m) (N : News g L s.heap news) (hd : d + 8 < recursionLimit) (hu : u + 8 * 8 + 200 < cLine)
    (hs : (sr, o) ∈ news) (hv : (Dv, listOf vs.toArray c) ∈ news) (hne : @Ne Nat Dv sr) (rest : List (Addr × Obj)) (h2 : ∀ p ∈ rest, p ∈ news) (h3 : ∀ p ∈ rest, @Ne Nat p.1 sr)
    (h : ∀ (h' : Heap) (tk' : Nat) (v : Value) (o' : Obj), Fr g L h' m → SrcO o' → News g L h' ((sr, o') :: rest) → v ∈ vs → Q v { s with heap := h', toks := tk' })
    (hf : env.frame = some L) (hk : env.scope.kind = .function) :
    wpAny (model PySem.Challenge.pw_nu0071_01 w) (arnd d env outer gd u) (call (.ref 499) [.ref sr, .ref Dv]) Q E s := by
  refine rw_use (one_spec w sr Dv vs h0 h1) B X T F N hd hu [(sr, o)] ((Dv, listOf vs.toArray c) :: rest) (fun p hp => by rw [List.mem_singleton.mp hp]; exact hs) (List.forall_mem_cons.mpr ⟨hv, h2⟩) (fun p hp q hq => by
    rw [List.mem_singleton.mp hq]
    rcases List.mem_cons.mp hp with rfl | hp
    · exact hne
    · exact h3 p hp) (fun g' st1 hh h2 _ => ⟨⟨o, ho, hh⟩, ⟨_, h2 _ (.head _), rfl, _, rfl⟩⟩) ?_ hf hk
  rintro g6 h6 tk8 r6 F6 N6 st6 hl6 kp6 ⟨⟨o6, ho6, hh6⟩, hv6⟩
  exact h h6 tk8 r6 o6 F6 ho6 (List.forall_mem_cons.mpr ⟨hl6 _ hh6 _ (.head _), fun p hp => N6 p (.tail _ hp)⟩) hv6
theorem take_use {sr : Addr} {top : Nat} {tt : Tok} {o : Obj} (h0 : 0 < top) (h1 : top < 1000) (ho : SrcO o) (B : Below A₀ base outer g) (X : (hd.heap_1 w.params).In g) (T : Top p loose mean mg mb g) (F : Fr g L s.heap m) (N : News g L s.heap news) (hd : d + 4 < recursionLimit) (hu : u + 8 * 4 + 200 < cLine)
    (hs : (sr, o) ∈ news) (rest : List (Addr × Obj)) (h2 : ∀ p ∈ rest, p ∈ news) (h3 : ∀ p ∈ rest, @Ne Nat p.1 sr)
    (h : ∀ (h' : Heap) (tk' : Nat) (r : Nat) (tr : Tok) (o' : Obj), Fr g L h' m → SrcO o' → News g L h' ((sr, o') :: rest) → r < top → Q (.int r tr) { s with heap := h', toks := tk' })
    (hf : env.frame = some L) (hk : env.scope.kind = .function) :
    wpAny (model PySem.Challenge.pw_nu0071_01 w) (arnd d env outer gd u) (call (.ref 492) [.ref sr, .int top tt]) Q E s := by
  refine rw_use (take_spec w sr top tt h0 h1) B X T F N hd hu [(sr, o)] rest (fun p hp => by rw [List.mem_singleton.mp hp]; exact hs) h2 (fun p hp q hq => by
    rw [List.mem_singleton.mp hq]; exact h3 p hp) (fun g' st1 hh h2 _ => ⟨o, ho, hh⟩) ?_ hf hk
  rintro g6 h6 tk8 r6 F6 N6 st6 hl6 kp6 ⟨⟨o6, ho6, hh6⟩, r, tr, rfl, hr⟩
  exact h h6 tk8 r tr o6 F6 ho6 (List.forall_mem_cons.mpr ⟨hl6 _ hh6 _ (.head _), N6⟩) hr
theorem tree_use {t : Addr} {T : List NRow} {lt : List (Addr × Obj)} {P : List NRow → Value → Prop} (S : RW1 w f vals n (fun g h => ∃ l, TreeLL w t T l ∧ Hid g h l) (fun g _ h' v => ∃ T' l, TreeLL w t T' l ∧ Hid g h' l ∧ P T' v)) (B : Below A₀ base outer g) (X : (hd.heap_1 w.params).In g) (TT : Top p loose mean mg mb g) (F : Fr g L s.heap m) (N : News g L s.heap news) (hd : d + n < recursionLimit) (hu : u + 8 * n + 200 < cLine)
    (htl : TreeLL w t T lt) (rest : List (Addr × Obj)) (h1 : ∀ p ∈ lt, p ∈ news) (h2 : ∀ p ∈ rest, p ∈ news) (h3 : ∀ p ∈ rest, ∀ q ∈ lt, @Ne Nat p.1 q.1)
    (h : ∀ (h' : Heap) (tk' : Nat) (v : Value) (T' : List NRow) (l' : List (Addr × Obj)), Fr g L h' m → TreeLL w t T' l' → News g L h' (l' ++ rest) → (∀ p ∈ l', ∀ q ∈ rest, @Ne Nat q.1 p.1) → P T' v → Q v { s with heap := h', toks := tk' })
    (hf : env.frame = some L) (hk : env.scope.kind = .function) :
    wpAny (model PySem.Challenge.pw_nu0071_01 w) (arnd d env outer gd u) (call (.ref f) vals) Q E s := by
  refine rw_use S B X TT F N hd hu lt rest h1 h2 h3 (fun g' _ hh _ _ => ⟨_, htl, hh⟩) ?_ hf hk
  rintro g6 h6 tk8 r6 F6 N6 st6 hl6 kp6 ⟨T', l', htl', hh', hP⟩
  exact h h6 tk8 r6 T' l' F6 htl' (news_two (hl6 _ hh') N6) (hid_apart hh' kp6) hP
end
theorem rw_kid {w : World} {f t : Addr} {vals : List Value} {n k : Nat} {T T1 : List NRow} (S : RW1 w f vals n (fun g h => ∃ l, TreeLL w t T l ∧ Hid g h l) (fun g _ h' v => (∃ l, TreeLL w t T1 l ∧ Hid g h' l) ∧ ∃ tk, v = .int k tk)) :
    RW1 w f vals n (fun g h => ∃ l, TreeLL w t T l ∧ Hid g h l) (fun g _ h' v => ∃ T' l, TreeLL w t T' l ∧ Hid g h' l ∧ (T' = T1 ∧ ∃ tk, v = .int k tk)) :=
  fun A s g Q E H hst hsz hr hp hret => S A s g Q E H hst hsz hr hp fun h' tk' r st q => hret h' tk' r st (by obtain ⟨⟨l, a, b⟩, c⟩ := q; exact ⟨_, l, a, b, rfl, c⟩)
theorem kid_wf {T : List NRow} (W : WF T) (hn : T.length < 59) {i : Nat} {ri r : NRow} (hi : T[i]? = some ri) (hk : ri.kind = sElem ∨ ri.kind = sRoot) (hp : r.parent = some i) (hc : r.children = []) (ha : r.attrs = []) (hs : r.nss = []) (h1 : r.kind ≠ sRoot) (h2 : r.kind ≠ sAttr) (h3 : r.kind ≠ sNs) :
    WF (addKid T i ri r) ∧ (∀ x, x < T.length → kindOf (addKid T i ri r) x = kindOf T x) ∧ kindOf (addKid T i ri r) T.length = r.kind ∧ (addKid T i ri r).length = T.length + 1 := by
  obtain ⟨a, b, c⟩ := wf_hang W hn (ri' := { ri with children := ri.children ++ [T.length] }) hi hp hc ha hs h1 (hk.imp id fun h => ⟨h, h2, h3⟩) rfl rfl (by rw [if_pos ⟨h2, h3⟩]) (by rw [if_neg h2]) (by rw [if_neg h3])
  exact ⟨a, fun x hx => (b x hx).1, c, by unfold addKid; simp⟩
theorem att_wf {T T' : List NRow} (W : WF T) (hn : T.length < 59) {i : Nat} {ri : NRow} (hi : T[i]? = some ri) (hk : ri.kind = sElem) {name uri loc value : Str}
    (h : (∃ (j : Nat) (rj : NRow) (nm vl : Str), T[j]? = some rj ∧ T' = T.set j { rj with name := nm, value := vl }) ∨ T' = List.set (T ++ [(⟨sAttr, name, uri, loc, value, some i, [], [], []⟩ : NRow)]) i { ri with attrs := ri.attrs ++ [T.length] }) :
    WF T' ∧ (∀ x, x < T.length → kindOf T' x = kindOf T x) ∧ T.length ≤ T'.length ∧ T'.length ≤ T.length + 1 := by
  rcases h with ⟨j, rj, nm, vl, hj, rfl⟩ | rfl
  · obtain ⟨a, b⟩ := wf_turn W hj nm vl
    exact ⟨a, fun x _ => (b x).1, by simp, by simp⟩
  · obtain ⟨a, b, _⟩ := wf_hang W hn (r := ⟨sAttr, name, uri, loc, value, some i, [], [], []⟩) (ri' := { ri with attrs := ri.attrs ++ [T.length] }) hi rfl rfl rfl rfl (show sAttr ≠ sRoot by decide) (.inl hk) rfl rfl (by rw [if_neg (show ¬(sAttr ≠ sAttr ∧ sAttr ≠ sNs) by decide)]) (by rw [if_pos rfl]) (by rw [if_neg (show ¬ sAttr = sNs by decide)])
    exact ⟨a, fun x hx => (b x hx).1, by simp, by simp⟩
theorem ns_wf {T T' : List NRow} (W : WF T) (hn : T.length < 59) {i : Nat} {ri : NRow} (hi : T[i]? = some ri) (hk : ri.kind = sElem) {name uri loc value : Str}
    (h : (∃ (j : Nat) (rj : NRow) (nm vl : Str), T[j]? = some rj ∧ T' = T.set j { rj with name := nm, value := vl }) ∨ T' = List.set (T ++ [(⟨sNs, name, uri, loc, value, some i, [], [], []⟩ : NRow)]) i { ri with nss := ri.nss ++ [T.length] }) :
    WF T' ∧ (∀ x, x < T.length → kindOf T' x = kindOf T x) ∧ T.length ≤ T'.length ∧ T'.length ≤ T.length + 1 := by
  rcases h with ⟨j, rj, nm, vl, hj, rfl⟩ | rfl
  · obtain ⟨a, b⟩ := wf_turn W hj nm vl
    exact ⟨a, fun x _ => (b x).1, by simp, by simp⟩
  · obtain ⟨a, b, _⟩ := wf_hang W hn (r := ⟨sNs, name, uri, loc, value, some i, [], [], []⟩) (ri' := { ri with nss := ri.nss ++ [T.length] }) hi rfl rfl rfl rfl (show sNs ≠ sRoot by decide) (.inl hk) rfl rfl (by rw [if_neg (show ¬(sNs ≠ sAttr ∧ sNs ≠ sNs) by decide)]) (by rw [if_neg (show ¬ sNs = sAttr by decide)]) (by rw [if_pos rfl])
    exact ⟨a, fun x hx => (b x hx).1, by simp, by simp⟩
end
section
local macro_rules | `(tactic| walk_at "my_none") => `(tactic| skip)
structure StB where
  T : List NRow
  lt : List (Addr × Obj)
  so : Obj
  iv : List Value
  ic : Nat
  ins : List Nat
noncomputable abbrev trTop (w : World) (t dt rl : Addr) (tkr ep : Nat) (r : List (Addr × Obj)) : List (Addr × Obj) := (t, instObj 441 dt) :: (dt, dictOf [⟨PyData.keyHash w.params (Str.ofString "rows"), .str (Str.ofString "rows") tkr, .ref rl⟩] ep) :: r
theorem lay_30 : True := by
  k_with "S2533 my_sub" =>
    (
      (try simp only [trTop, List.cons_append, List.nil_append, List.append_nil, all_cons, all_app, all_nil, and_true, true_and, implies_true])
      and_intros
      all_goals first
        | (simp only [List.mem_cons, List.mem_append, true_or, or_true]; done)
        | (intro p hp; simp only [List.mem_cons, List.mem_append, hp, true_or, or_true]; done))
  k_with "S2534 my_sub" =>
    ((try dsimp only [trTop, List.nil_append, List.cons_append]); (repeat' (first | (refine Mine.fc ?q27m ?_; (case q27m => walk_at "my_mm")) | exact Mine.fn | with_reducible exact sub_r | with_reducible exact sub_al | with_reducible exact sub_a2 | with_reducible exact sub_a3 | with_reducible exact sub_as | with_reducible refine sub_app ?_ ?_ | with_reducible refine sub_t ?_ | with_reducible refine sub_ar ?_)); done)
  k_with "S2535 my_sub1" =>
    first | walk_at "my_mm" | simp only [List.mem_cons, List.mem_append, true_or, or_true]
  trivial
local macro_rules | `(tactic| walk_at "my_sub") => `(tactic| k_extra "S2533 my_sub")
local macro_rules | `(tactic| walk_at "my_sub") => `(tactic| k_extra "S2534 my_sub")
local macro_rules | `(tactic| walk_at "my_sub1") => `(tactic| k_extra "S2535 my_sub1")

structure TreeKept (w : World) (t sr D : Addr) (k : Nat) (c : StB) : Prop where
  wf : WF c.T
  led : TreeLL w t c.T c.lt
  len : c.T.length ≤ k + 2
  pos : 0 < c.T.length
  so : SrcO c.so
  nv : NV c.iv c.ins
  ne : 0 < c.ins.length
  il : c.ins.length ≤ k + 1
  el : ∀ x ∈ c.ins, x < c.T.length ∧ kindOf c.T x = sElem
  root : kindOf c.T 0 = sRoot
  a1 : ∀ p ∈ c.lt, @Ne Nat p.1 sr
  a2 : ∀ p ∈ c.lt, @Ne Nat p.1 D
theorem lay_31 : True := by
  k_with "S2536 call type:range" =>
    ((with_reducible show wpAny _ _ (call (Value.type "range") [Value.int _ _]) _ _ _); (refine range1_rows (by assumption) (by assumption) ?_); intro _ _ _ _ _ _ _ _ _; (try k_sweep))
  trivial
local macro_rules | `(tactic| walk_at "call type:range") => `(tactic| k_extra "S2536 call type:range")

inductive TreeRes (w : World) (sr : Addr) (g h' : Heap) (v : Value) : Prop
  | ik (lr t : Addr) (tr : Tok) (cr : Nat) (T : List NRow) (l : List (Addr × Obj)) (o : Obj)
    (f0 : v = .ref lr)
    (f1 : SrcO o)
    (f2 : TreeLL w t T l)
    (f3 : Hid g h' ((lr, listOf [.ref t, .int 0 tr].toArray cr) :: (sr, o) :: l))
    (f4 : @Ne Nat lr sr)
    (f5 : (∀ p ∈ l, @Ne Nat p.1 sr))
    (f6 : (∀ p ∈ l, @Ne Nat p.1 lr))
    (f7 : WF T)
    (f8 : 0 < T.length)
    (f9 : kindOf T 0 = sRoot) : TreeRes w sr g h' v
set_option maxHeartbeats 8000000 in
theorem tree_spec (w : World) (sr : Addr) (tk4 : Tok) :
    RW1 w 506 [.ref sr, .int 4 tk4] 30 (fun g h => ∃ o, SrcO o ∧ Hid g h [(sr, o)])
      (fun g _ h' v => TreeRes w sr g h' v) := by
  intro A s g Q E H hst hsz hr hp hret
  obtain ⟨o, ho, hhid⟩ := hp
  walk_at "my_enterG"
  walk_at "my_steps"
  rename Fr _ _ _ _ => F
  rename News _ _ _ _ => N
  rename Below _ _ _ _ => B
  rename Frag.In _ _ => X
  rename Top _ _ _ _ _ _ => TT
  refine ro_use (tree_new_spec w) B X TT F N (by walk_at "my_room") (by walk_at "my_room") trivial ?_ rfl rfl
  rintro h' tk' r' F' N' st' ⟨t, l, rfl, htl, hh⟩
  have a1 : ∀ p ∈ l, @Ne Nat p.1 sr := hid_ne hh (N _ (.head _)).1
  have N2 := news_hid F N' hh
  clear N N' F st' hh
  obtain ⟨dt, rl, tkr, ep, l', rfl⟩ := htl.head
  dsimp only [List.cons_append] at N2
  walk_at "my_steps"
  try clear F' N2
  rename Fr _ _ _ _ => F
  rename News _ _ _ _ => N
  refine rw_use (new_root_spec w t [] (by simp)) B X TT F N (by walk_at "my_room") (by walk_at "my_room") ((t, instObj 441 dt) :: (dt, _) :: l') [(sr, o)] (by walk_at "my_sub") (by walk_at "my_sub") (fun p hp q hq => by
    rw [List.mem_singleton.mp hp]; exact (a1 q hq).symm) (fun g' _ hh _ _ => ⟨_, htl, hh⟩) ?_ rfl rfl
  rintro g' h1 tk1 r1 F1 N1 st1 hl1 kp ⟨⟨l2, htl2, hh2⟩, tk2, rfl⟩
  have a2 : ∀ p ∈ l2, @Ne Nat p.1 sr := fun p hp => (hid_apart hh2 kp p hp (sr, o) (.head _)).symm
  have N2 := news_two (hl1 _ hh2) N1
  clear N N1 F htl a1 hl1 kp hh2
  obtain ⟨dt, rl, tkr, ep, l', rfl⟩ := htl2.head
  dsimp only [List.cons_append] at N2
  walk_at "my_steps"
  try clear F1 N2
  rename Fr _ _ _ _ => F
  rename News _ _ _ _ => N
  generalize hT1 : ([] : List NRow) ++ [(⟨sRoot, Str.ofString "", Str.ofString "", Str.ofString "", Str.ofString "", none, [], [], []⟩ : NRow)] = T1 at htl2
  obtain ⟨W1, -⟩ := wf_root wf_nil (by simp) (r := ⟨sRoot, Str.ofString "", Str.ofString "", Str.ofString "", Str.ofString "", none, [], [], []⟩) rfl rfl rfl rfl rfl
  rw [hT1] at W1
  refine rw_use (add_element_spec w t 0 tk2 (Str.ofString "r") (Str.ofString "") (Str.ofString "r") _ _ _ T1 (by rw [← hT1]; simp) _ (by rw [← hT1]; rfl) (.inr rfl) (by simp)) B X TT F N (by walk_at "my_room") (by walk_at "my_room") ((t, instObj 441 dt) :: (dt, _) :: l') [(sr, o)] (by walk_at "my_sub") (by walk_at "my_sub") (fun p hp q hq => by
    rw [List.mem_singleton.mp hp]; exact (a2 q hq).symm) (fun g' _ hh _ _ => ⟨_, htl2, hh⟩) ?_ rfl rfl
  rintro g2 h2 tk3 r2 F2 N2 st2 hl2 kp ⟨⟨l3, htl3, hh3⟩, tk4', rfl⟩
  have a3 : ∀ p ∈ l3, @Ne Nat p.1 sr := fun p hp => (hid_apart hh3 kp p hp (sr, o) (.head _)).symm
  have N3 := news_two (hl2 _ hh3) N2
  clear N N2 F a2 hl2 kp hh3 htl2
  walk_at "my_steps"
  try clear F2 N3
  rename Fr _ _ _ _ => F
  rename News _ _ _ _ => N
  rename_i D h3 lD h4
  have a4 : ∀ p ∈ l3, @Ne Nat p.1 D := fun p hp => Nat.ne_of_lt (lD p (List.mem_append_left _ hp))
  have a5 : @Ne Nat sr D := Nat.ne_of_lt (lD (sr, o) (by simp))
  refine rw_use (take_spec w sr 4 tk4 (by decide) (by decide)) B X TT F N (by walk_at "my_room") (by walk_at "my_room") [(sr, o)] ((D, listOf [Value.int (T1.length : Nat) tk4'].toArray 0) :: l3) (by walk_at "my_sub") (by walk_at "my_sub") (fun p hp q hq => by
    rw [List.mem_singleton.mp hq]
    rcases List.mem_cons.mp hp with rfl | hp
    · exact a5.symm
    · exact a3 p hp) (fun g' _ hh _ _ => ⟨o, ho, hh⟩) ?_ rfl rfl
  rintro g5 h5 tk6 r5 F5 N5 st5 hl5 kp5 ⟨⟨o5, ho5, hh5⟩, n5, tk7, rfl, hn5⟩
  have N6 := news_two (hl5 _ hh5) N5
  clear N N5 F
  dsimp only [List.cons_append, List.nil_append] at N6
  walk_at "my_steps"
  try clear N6
  rename Fr _ _ _ _ => F
  rename News _ _ _ _ => N
  rename IsRange _ _ _ _ _ _ _ _ => R
  generalize hT3 : addKid T1 0 _ _ = T3 at htl3
  obtain ⟨W3, k3, e3⟩ := wf_hang W1 (by rw [← hT1]; simp) (i := 0) (ri := ⟨sRoot, Str.ofString "", Str.ofString "", Str.ofString "", Str.ofString "", none, [], [], []⟩) (ri' := ⟨sRoot, Str.ofString "", Str.ofString "", Str.ofString "", Str.ofString "", none, [1], [], []⟩)
    (r := ⟨sElem, Str.ofString "r", Str.ofString "", Str.ofString "r", Str.ofString "", some 0, [], [], []⟩) (by rw [← hT1]; rfl) rfl rfl rfl rfl (by decide) (.inr ⟨rfl, by decide, by decide⟩) rfl rfl (by rw [← hT1]; decide) (by rw [if_neg (by decide)]) (by rw [if_neg (by decide)])
  have hl1 : T1.length = 1 := by rw [← hT1]; rfl
  have hT3' : T3 = (T1 ++ [(⟨sElem, Str.ofString "r", Str.ofString "", Str.ofString "r", Str.ofString "", some 0, [], [], []⟩ : NRow)]).set 0 ⟨sRoot, Str.ofString "", Str.ofString "", Str.ofString "", Str.ofString "", none, [1], [], []⟩ := by
    rw [← hT3]; unfold addKid; rw [hl1]; rfl
  rw [← hT3'] at W3 k3 e3
  have hl3 : T3.length = 2 := by rw [hT3']; simp [hl1]
  refine iter_range (n := 2 + n5) rfl (σ := StB) (fun c => (sr, c.so) :: (D, listOf c.iv.toArray c.ic) :: c.lt) (fun _ => []) [Str.ofString "parent", Str.ofString "way"] (fun k c => TreeKept w t sr D k c) ⟨T3, l3, o5, [.int (T1.length : Nat) tk4'], 0, [1]⟩ []
    rfl R (small_one (by omega) (by omega) (by omega) (by omega)) (by rw [rangeSize_nat]; omega) F N (by walk_at "my_sub") (by walk_at "my_nil") (by walk_at "my_nil") ⟨W3, htl3, by dsimp only; omega, by dsimp only; omega, ho5, by rw [hl1]; exact NV.one, by simp, by simp, ?_, ?_, a3, a4⟩ ?_ ?_
  · intro x hx
    rw [List.mem_singleton.mp hx]
    exact ⟨by dsimp only; omega, by rw [hl1] at e3; exact e3⟩
  · dsimp only
    rw [(k3 0 (by omega)).1, ← hT1]; rfl
  · clear F N R
    rintro k tkk ⟨T, lt, so, iv, ic, ins⟩ u h tk own hk ⟨W, htl, hTl, hTp, hso, hnv, hne, hil, hel, hroot, a1, a2⟩ F N hsep
    dsimp only at F N W htl hTl hTp hso hnv hne hil hel hroot a1 a2 hsep ⊢
    obtain ⟨dt, rl, tkr, ep, l', rfl⟩ := htl.head
    dsimp only [List.cons_append, List.nil_append] at N hsep
    walk_at "my_steps"
    rename Fr _ _ _ _ => F
    rename News _ _ _ _ => N
    have hD : @Ne Nat D sr := a5.symm
    have hsA := all_cons.mp hsep
    have hsB := all_cons.mp hsA.2
    have hivl := hnv.len
    have hLD : ∀ p ∈ own, @Ne Nat p.1 D := fun p hp => hsB.1 p hp
    have hLt : ∀ p ∈ own, ∀ q ∈ trTop w t dt rl tkr ep l', @Ne Nat p.1 q.1 := fun p hp q hq => hsB.2 q hq p hp
    have hR : ∀ p ∈ (D, listOf iv.toArray ic) :: trTop w t dt rl tkr ep (l' ++ own), @Ne Nat p.1 sr := by
      intro p hp
      rcases List.mem_cons.mp hp with rfl | hp
      · exact hD
      · rcases List.mem_append.mp (show p ∈ trTop w t dt rl tkr ep l' ++ own from hp) with hp | hp
        · exact a1 p hp
        · exact hsA.1 p hp
    refine one_use (c := ic) (by omega) (by omega) hso B X TT F N (by walk_at "my_room") (by walk_at "my_room") (.head _) (.tail _ (.head _)) hD ((D, listOf iv.toArray ic) :: trTop w t dt rl tkr ep (l' ++ own)) (fun p hp => .tail _ hp) hR ?_ rfl rfl
    intro h6 tk8 v6 o6 F6 ho6 N6 hv6
    obtain ⟨i, tki, hi, rfl⟩ := nv_mem hnv hv6
    obtain ⟨hiT, hik⟩ := hel i hi
    clear N F hv6 hso
    walk_at "my_steps"
    rename Fr _ _ _ _ => F
    rename News _ _ _ _ => N
    refine take_use (top := 8) (by decide) (by decide) ho6 B X TT F N (by walk_at "my_room") (by walk_at "my_room") (.head _) ((D, listOf iv.toArray ic) :: trTop w t dt rl tkr ep (l' ++ own)) (fun p hp => .tail _ hp) hR ?_ rfl rfl
    intro h7 tk9 way tkw o7 F7 ho7 N7 hway
    clear N F ho6
    obtain ⟨ri, hri⟩ := row_at hiT
    have hrk : ri.kind = sElem := by rw [← kind_of hri]; exact hik
    have hrc : ri.children.length < 60 := by rw [← kids_of hri]; exact kids_len W i
    have hT58 : T.length < 58 := by omega
    have hSep : ∀ (o' : Obj) (lt' : List (Addr × Obj)) (x : Obj), (∀ p ∈ lt', ∀ q ∈ (sr, o') :: (D, listOf iv.toArray ic) :: own, @Ne Nat q.1 p.1) → ∀ q ∈ (sr, o') :: (D, x) :: lt', ∀ p ∈ own, @Ne Nat p.1 q.1 := by
      intro o' lt' x hap q hq p hp
      rcases List.mem_cons.mp hq with rfl | hq
      · exact hsA.1 p hp
      · rcases List.mem_cons.mp hq with rfl | hq
        · exact hLD p hp
        · exact hap q hq p (.tail _ (.tail _ hp))
    have hR2 : ∀ o', ∀ p ∈ (sr, o') :: (D, listOf iv.toArray ic) :: own, ∀ q ∈ trTop w t dt rl tkr ep l', @Ne Nat p.1 q.1 := by
      intro o' p hp q hq
      rcases List.mem_cons.mp hp with rfl | hp
      · exact (a1 q hq).symm
      · rcases List.mem_cons.mp hp with rfl | hp
        · exact (a2 q hq).symm
        · exact hLt p hp q hq
    walk_at "my_steps"
    · rename_i D2 _ F N l2
      have hD2 : @Ne Nat D2 sr := Nat.ne_of_gt l2.2.1
      refine one_use (by walk_at "my_nil") (by walk_at "my_nil") ho7 B X TT F N (by walk_at "my_room") (by walk_at "my_room") (by walk_at "my_sub1") (.head _) hD2 ((D, listOf iv.toArray ic) :: trTop w t dt rl tkr ep (l' ++ own)) (fun p hp => .tail _ (.tail _ (.tail _ hp))) hR ?_ rfl rfl
      intro h8 tk8 v8 o8 F8 ho8 N8 hv8
      clear N F ho7 hD2 l2
      obtain ⟨nm, tnm, rfl⟩ : ∃ nm tnm, v8 = .str nm tnm := by
        rcases mem_two hv8 with rfl | rfl <;> exact ⟨_, _, rfl⟩
      walk_at "my_steps"
      refine tree_use (rw_kid (add_element_spec w t i tki nm (Str.ofString "") (Str.ofString "a") _ _ _ T (by omega) ri hri (.inl hrk) hrc)) B X TT (by assumption) (by assumption) (by walk_at "my_room") (by walk_at "my_room") htl ((sr, o8) :: (D, listOf iv.toArray ic) :: own) (by walk_at "my_sub") (by walk_at "my_sub") (hR2 o8) ?_ rfl rfl
      rintro h9 tk9 v9 T' lt' F9 htl' N9 hap ⟨hT', tk10, rfl⟩
      obtain ⟨W', k', e', z'⟩ := kid_wf W (by omega) hri (.inl hrk) (r := ⟨sElem, nm, Str.ofString "", Str.ofString "a", Str.ofString "", some i, [], [], []⟩) rfl rfl rfl rfl (show sElem ≠ sRoot by decide) (show sElem ≠ sAttr by decide) (show sElem ≠ sNs by decide)
      rw [← hT'] at W' k' e' z'
      have N10 := News.sub N9 (l' := (D, listOf iv.toArray ic) :: (sr, o8) :: (lt' ++ own)) (by walk_at "my_sub")
      clear N9
      have hDa : ∀ p ∈ (sr, o8) :: (lt' ++ own), @Ne Nat p.1 D := by
        intro p hp
        rcases List.mem_cons.mp hp with rfl | hp
        · exact a5
        · rcases List.mem_append.mp hp with hp | hp
          · exact (hap p hp (D, listOf iv.toArray ic) (.tail _ (.head _))).symm
          · exact hLD p hp
      walk_at "my_steps"
      rename Fr _ _ _ _ => F
      rename News _ _ _ _ => N
      refine ForEnd.intro (⟨_, lt', o8, iv ++ [.int (T.length : Nat) tk10], ic + 1, ins ++ [T.length]⟩ : StB) F N (by walk_at "my_sub") ⟨W', htl', by rw [z']; omega, by rw [z']; omega, ho8, hnv.snoc _ _, by simp, by simp; omega, ?_, ?_, ?_, ?_⟩ ?_ (by walk_at "my_nil") (by walk_at "my_same")
      · intro x hx
        rcases List.mem_append.mp hx with hx | hx
        · have := hel x hx
          exact ⟨by rw [z']; omega, (k' x this.1).trans this.2⟩
        · rw [List.mem_singleton.mp hx]
          exact ⟨by rw [z']; omega, e'⟩
      · exact (k' 0 hTp).trans hroot
      · exact fun p hp => (hap p hp (sr, o8) (.head _)).symm
      · exact fun p hp => (hap p hp (D, listOf iv.toArray ic) (.tail _ (.head _))).symm
      · exact hSep o8 lt' _ hap
    · refine tree_use (rw_kid (add_text_spec w t i tki (Str.ofString "x") _ T (by omega) ri hri (.inl hrk) hrc)) B X TT (by assumption) (by assumption) (by walk_at "my_room") (by walk_at "my_room") htl ((sr, o7) :: (D, listOf iv.toArray ic) :: own) (by walk_at "my_sub") (by walk_at "my_sub") (hR2 o7) ?_ rfl rfl
      rintro h9 tk9 v9 T' lt' F9 htl' N9 hap ⟨hT', tk10, rfl⟩
      obtain ⟨W', k', e', z'⟩ := kid_wf W (by omega) hri (.inl hrk) (r := ⟨Str.ofString "text", Str.ofString "", Str.ofString "", Str.ofString "", Str.ofString "x", some i, [], [], []⟩) rfl rfl rfl rfl (show Str.ofString "text" ≠ sRoot by decide) (show Str.ofString "text" ≠ sAttr by decide) (show Str.ofString "text" ≠ sNs by decide)
      rw [← hT'] at W' k' e' z'
      walk_at "my_steps"
      refine ForEnd.intro (⟨T', lt', o7, iv, ic, ins⟩ : StB) F9 N9 (by walk_at "my_sub") ⟨W', htl', by rw [z']; omega, by rw [z']; omega, ho7, hnv, hne, Nat.le_succ_of_le hil, fun x hx => ?_, (k' 0 hTp).trans hroot, ?_, ?_⟩ ?_ (by walk_at "my_nil") (by walk_at "my_same")
      · have := hel x hx
        exact ⟨by rw [z']; omega, (k' x this.1).trans this.2⟩
      · exact fun p hp => (hap p hp (sr, o7) (.head _)).symm
      · exact fun p hp => (hap p hp (D, listOf iv.toArray ic) (.tail _ (.head _))).symm
      · exact hSep o7 lt' _ hap
    · refine tree_use (rw_kid (add_comment_spec w t i tki (Str.ofString "c") _ T (by omega) ri hri (.inl hrk) hrc)) B X TT (by assumption) (by assumption) (by walk_at "my_room") (by walk_at "my_room") htl ((sr, o7) :: (D, listOf iv.toArray ic) :: own) (by walk_at "my_sub") (by walk_at "my_sub") (hR2 o7) ?_ rfl rfl
      rintro h9 tk9 v9 T' lt' F9 htl' N9 hap ⟨hT', tk10, rfl⟩
      obtain ⟨W', k', e', z'⟩ := kid_wf W (by omega) hri (.inl hrk) (r := ⟨Str.ofString "comment", Str.ofString "", Str.ofString "", Str.ofString "", Str.ofString "c", some i, [], [], []⟩) rfl rfl rfl rfl (show Str.ofString "comment" ≠ sRoot by decide) (show Str.ofString "comment" ≠ sAttr by decide) (show Str.ofString "comment" ≠ sNs by decide)
      rw [← hT'] at W' k' e' z'
      walk_at "my_steps"
      refine ForEnd.intro (⟨T', lt', o7, iv, ic, ins⟩ : StB) F9 N9 (by walk_at "my_sub") ⟨W', htl', by rw [z']; omega, by rw [z']; omega, ho7, hnv, hne, Nat.le_succ_of_le hil, fun x hx => ?_, (k' 0 hTp).trans hroot, ?_, ?_⟩ ?_ (by walk_at "my_nil") (by walk_at "my_same")
      · have := hel x hx
        exact ⟨by rw [z']; omega, (k' x this.1).trans this.2⟩
      · exact fun p hp => (hap p hp (sr, o7) (.head _)).symm
      · exact fun p hp => (hap p hp (D, listOf iv.toArray ic) (.tail _ (.head _))).symm
      · exact hSep o7 lt' _ hap
    · rename_i D2 _ F N l2
      have hD2 : @Ne Nat D2 sr := Nat.ne_of_gt l2.2.1
      refine one_use (by walk_at "my_nil") (by walk_at "my_nil") ho7 B X TT F N (by walk_at "my_room") (by walk_at "my_room") (by walk_at "my_sub1") (.head _) hD2 ((D, listOf iv.toArray ic) :: trTop w t dt rl tkr ep (l' ++ own)) (fun p hp => .tail _ (.tail _ (.tail _ hp))) hR ?_ rfl rfl
      intro h8 tk8 v8 o8 F8 ho8 N8 hv8
      clear N F ho7 hD2 l2
      obtain ⟨nm, tnm, rfl⟩ : ∃ nm tnm, v8 = .str nm tnm := by
        rcases mem_two hv8 with rfl | rfl <;> exact ⟨_, _, rfl⟩
      walk_at "my_steps"
      rename_i D3 _ F N l3
      have hD3 : @Ne Nat D3 sr := Nat.ne_of_gt l3.1
      refine one_use (by walk_at "my_nil") (by walk_at "my_nil") ho8 B X TT F N (by walk_at "my_room") (by walk_at "my_room") (by walk_at "my_sub1") (.head _) hD3 ((D, listOf iv.toArray ic) :: trTop w t dt rl tkr ep (l' ++ own)) (fun p hp => .tail _ (.tail _ hp)) hR ?_ rfl rfl
      intro h9 tk9 v9 o9 F9 ho9 N9 hv9
      clear N F ho8 hD3 l3
      obtain ⟨nm2, tnm2, rfl⟩ : ∃ nm tnm, v9 = .str nm tnm := by
        rcases mem_two hv9 with rfl | rfl <;> exact ⟨_, _, rfl⟩
      walk_at "my_steps"
      refine tree_use (set_attribute_spec w t i tki nm (Str.ofString "") nm2 (Str.ofString "v") _ _ _ _ T W ri hri hrk) B X TT (by assumption) (by assumption) (by walk_at "my_room") (by walk_at "my_room") htl ((sr, o9) :: (D, listOf iv.toArray ic) :: own) (by walk_at "my_sub") (by walk_at "my_sub") (hR2 o9) ?_ rfl rfl
      rintro h10 tk10 v10 T' lt' F10 htl' N10 hap hT'
      obtain ⟨W', k', z1, z2⟩ := att_wf W (by omega) hri hrk hT'
      walk_at "my_steps"
      refine ForEnd.intro (⟨T', lt', o9, iv, ic, ins⟩ : StB) F10 N10 (by walk_at "my_sub") ⟨W', htl', by dsimp only; omega, by dsimp only; omega, ho9, hnv, hne, Nat.le_succ_of_le hil, fun x hx => ?_, (k' 0 hTp).trans hroot, ?_, ?_⟩ ?_ (by walk_at "my_nil") (by walk_at "my_same")
      · have := hel x hx
        exact ⟨by dsimp only; omega, (k' x this.1).trans this.2⟩
      · exact fun p hp => (hap p hp (sr, o9) (.head _)).symm
      · exact fun p hp => (hap p hp (D, listOf iv.toArray ic) (.tail _ (.head _))).symm
      · exact hSep o9 lt' _ hap
    · rename_i D2 _ F N l2
      have hD2 : @Ne Nat D2 sr := Nat.ne_of_gt l2.2.1
      refine one_use (by walk_at "my_nil") (by walk_at "my_nil") ho7 B X TT F N (by walk_at "my_room") (by walk_at "my_room") (by walk_at "my_sub1") (.head _) hD2 ((D, listOf iv.toArray ic) :: trTop w t dt rl tkr ep (l' ++ own)) (fun p hp => .tail _ (.tail _ (.tail _ hp))) hR ?_ rfl rfl
      intro h8 tk8 v8 o8 F8 ho8 N8 hv8
      clear N F ho7 hD2 l2
      obtain ⟨nm, tnm, rfl⟩ : ∃ nm tnm, v8 = .str nm tnm := by
        rcases mem_three hv8 with rfl | rfl | rfl <;> exact ⟨_, _, rfl⟩
      walk_at "my_steps"
      rename_i D3 _ F N l3
      have hD3 : @Ne Nat D3 sr := Nat.ne_of_gt l3.1
      refine one_use (by walk_at "my_nil") (by walk_at "my_nil") ho8 B X TT F N (by walk_at "my_room") (by walk_at "my_room") (by walk_at "my_sub1") (.head _) hD3 ((D, listOf iv.toArray ic) :: trTop w t dt rl tkr ep (l' ++ own)) (fun p hp => .tail _ (.tail _ hp)) hR ?_ rfl rfl
      intro h9 tk9 v9 o9 F9 ho9 N9 hv9
      clear N F ho8 hD3 l3
      obtain ⟨nm2, tnm2, rfl⟩ : ∃ nm tnm, v9 = .str nm tnm := by
        rcases mem_three hv9 with rfl | rfl | rfl <;> exact ⟨_, _, rfl⟩
      walk_at "my_steps"
      refine tree_use (add_namespace_spec w t i tki nm nm2 _ _ T W ri hri hrk) B X TT (by assumption) (by assumption) (by walk_at "my_room") (by walk_at "my_room") htl ((sr, o9) :: (D, listOf iv.toArray ic) :: own) (by walk_at "my_sub") (by walk_at "my_sub") (hR2 o9) ?_ rfl rfl
      rintro h10 tk10 v10 T' lt' F10 htl' N10 hap hT'
      obtain ⟨W', k', z1, z2⟩ := ns_wf W (by omega) hri hrk hT'
      walk_at "my_steps"
      refine ForEnd.intro (⟨T', lt', o9, iv, ic, ins⟩ : StB) F10 N10 (by walk_at "my_sub") ⟨W', htl', by dsimp only; omega, by dsimp only; omega, ho9, hnv, hne, Nat.le_succ_of_le hil, fun x hx => ?_, (k' 0 hTp).trans hroot, ?_, ?_⟩ ?_ (by walk_at "my_nil") (by walk_at "my_same")
      · have := hel x hx
        exact ⟨by dsimp only; omega, (k' x this.1).trans this.2⟩
      · exact fun p hp => (hap p hp (sr, o9) (.head _)).symm
      · exact fun p hp => (hap p hp (D, listOf iv.toArray ic) (.tail _ (.head _))).symm
      · exact hSep o9 lt' _ hap
  · clear F N R
    rintro ⟨T, lt, so, iv, ic, ins⟩ u h tk ⟨W, htl, hTl, hTp, hso, hnv, hne, hil, hel, hroot, a1, a2⟩ F N hsep
    dsimp only at F N W htl hTl hTp hso hnv hne hil hel hroot a1 a2 hsep ⊢
    obtain ⟨dt, rl, tkr, ep, l', rfl⟩ := htl.head
    simp only [List.cons_append, List.nil_append, List.append_nil] at N
    have N0 := News.sub N (l' := trTop w t dt rl tkr ep ((sr, so) :: l')) (by walk_at "my_sub")
    clear N
    walk_at "my_steps"
    refine tree_use (rw_kid (new_root_spec w t T (by omega))) B X TT (by assumption) (by assumption) (by walk_at "my_room") (by walk_at "my_room") htl [(sr, so)] (by walk_at "my_sub") (by walk_at "my_sub") (fun p hp q hq => by
      rw [List.mem_singleton.mp hp]; exact (a1 q hq).symm) ?_ rfl rfl
    rintro h10 tk10 v10 T' lt' F10 htl' N10 hap ⟨hT', tkn, rfl⟩
    obtain ⟨W', k'⟩ := wf_root W (by omega) (r := ⟨sRoot, Str.ofString "", Str.ofString "", Str.ofString "", Str.ofString "", none, [], [], []⟩) rfl rfl rfl rfl rfl
    have hri : T'[T.length]? = some ⟨sRoot, Str.ofString "", Str.ofString "", Str.ofString "", Str.ofString "", none, [], [], []⟩ := by rw [hT']; simp
    have hl' : T'.length = T.length + 1 := by rw [hT']; simp
    rw [← hT'] at W' k'
    obtain ⟨dt, rl, tkr, ep, l2, rfl⟩ := htl'.head
    have N1 := News.sub N10 (l' := trTop w t dt rl tkr ep (l2 ++ [(sr, so)])) (by walk_at "my_sub")
    clear N10
    walk_at "my_steps"
    refine tree_use (rw_kid (add_element_spec w t T.length tkn (Str.ofString "other") (Str.ofString "") (Str.ofString "other") _ _ _ T' (by omega) _ hri (.inr rfl) (by simp))) B X TT (by assumption) (by assumption) (by walk_at "my_room") (by walk_at "my_room") htl' [(sr, so)] (by walk_at "my_sub") (by walk_at "my_sub") (fun p hp q hq => hap q hq p hp) ?_ rfl rfl
    rintro h11 tk11 v11 T2 lt2 F11 htl2 N11 hap2 ⟨hT2, tkn2, rfl⟩
    obtain ⟨W2, k2, e2, z2⟩ := kid_wf W' (by omega) hri (.inr rfl) (r := ⟨sElem, Str.ofString "other", Str.ofString "", Str.ofString "other", Str.ofString "", some T.length, [], [], []⟩) rfl rfl rfl rfl (show sElem ≠ sRoot by decide) (show sElem ≠ sAttr by decide) (show sElem ≠ sNs by decide)
    rw [← hT2] at W2 k2 e2 z2
    clear N1
    walk_at "my_steps"
    rename Fr _ _ _ _ => F
    rename News _ _ _ _ => N
    rename_i lr h12 llr
    change News g _ _ ((lr, listOf [Value.ref t, .int 0 tk2].toArray 0) :: (lt2 ++ [(sr, so)])) at N
    refine hret _ _ _ F.keep ⟨lr, t, _, 0, T2, lt2, so, rfl, hso, htl2, hid_of (News.sub N (l' := (lr, listOf [Value.ref t, .int 0 tk2].toArray 0) :: (sr, so) :: lt2) (by walk_at "my_sub")), ?_, fun p hp => (hap2 p hp (sr, so) (.head _)).symm, ?_, W2, by omega, ?_⟩
    · exact Nat.ne_of_gt (llr (sr, so) (by simp))
    · exact fun p hp => Nat.ne_of_lt (llr p (List.mem_append_left _ hp))
    · rw [k2 0 (by omega), (k' 0 hTp).1]; exact hroot
end
section
structure PairOK (T : List NRow) (r n : Nat) (nms : List Str) (name : Str) : Prop where
  all : ∀ x ∈ nms, x ∈ shortNames ++ longNames
  one : name ∈ shortNames ++ longNames
  pos : 0 < nms.length
  low : nms.length < 60
  eq : stepsL T r [n] nms = (walked T r).filter fun x => decide (x ∈ axisL T n name)
section
variable {w : World} {A₀ : Around} {base g : Heap} {outer : List Env} {p : Program} {loose : List Str} {mean : ExcName → Option Value} {mg mb : Str → Option Value} {d u : Nat} {gd : Option (List Code)} {L : Addr} {m : Str → Option Value} {env : Env}
  {s : Shared} {Q E : Value → Shared → Prop}
theorem pairs_use {T : List NRow} {r n : Nat} {sr e1 q1 e2 q2 e3 q3 e4 q4 P C : Addr} {v1 v2 v3 v4 : List Value} {n1 n2 n3 n4 : Str} {m1 m2 m3 m4 : List Str} {t1 t2 t3 t4 : Tok} {c1 c2 c3 c4 cp : Nat} {oc o : Obj} {tl : List (Addr × Obj)}
    (ho : SrcO o) (B : Below A₀ base outer g) (X : (hd.heap_1 w.params).In g) (TT : Top p loose mean mg mb g) (F : Fr g L s.heap m)
    (N : News g L s.heap ((e4, tupOf #[.ref q4, .str n4 t4]) :: (q4, listOf v4.toArray c4) :: (e3, tupOf #[.ref q3, .str n3 t3]) :: (q3, listOf v3.toArray c3) :: (P, listOf [Value.ref e1, Value.ref e2, Value.ref e3, Value.ref e4].toArray cp) :: (e2, tupOf #[.ref q2, .str n2 t2]) :: (q2, listOf v2.toArray c2) :: (e1, tupOf #[.ref q1, .str n1 t1]) :: (q1, listOf v1.toArray c1) :: (C, oc) :: (sr, o) :: tl))
    (hd : d + 8 < recursionLimit) (hu : u + 8 * 8 + 200 < cLine) (hP : @Ne Nat P sr)
    (o1 : ∀ x ∈ [e1, q1, e2, q2, e3, q3, e4, q4], @Ne Nat x sr) (hC : @Ne Nat C sr) (htn : ∀ p ∈ tl, @Ne Nat p.1 sr)
    (s1 : SV v1 m1) (s2 : SV v2 m2) (s3 : SV v3 m3) (s4 : SV v4 m4) (k1 : PairOK T r n m1 n1) (k2 : PairOK T r n m2 n2) (k3 : PairOK T r n m3 n3) (k4 : PairOK T r n m4 n4)
    (h : ∀ (h' : Heap) (tk' : Nat) (o' : Obj) (tq lq : Addr) (lv : List Value) (c : Nat) (name : Str) (tn : Tok) (nms : List Str), Fr g L h' m → SrcO o' → (tq ∈ [e1, e2, e3, e4]) → (lq ∈ [q1, q2, q3, q4]) → News g L h' ((tq, tupOf #[.ref lq, .str name tn]) :: (lq, listOf lv.toArray c) :: (C, oc) :: (sr, o') :: tl) → SV lv nms → PairOK T r n nms name → Q (.ref tq) { s with heap := h', toks := tk' })
    (hf : env.frame = some L) (hk : env.scope.kind = .function) :
    wpAny (model PySem.Challenge.pw_nu0071_01 w) (arnd d env outer gd u) (call (.ref 499) [.ref sr, .ref P]) Q E s := by
  simp only [all_cons, all_nil, and_true] at o1
  obtain ⟨o11, o12, o21, o22, o31, o32, o41, o42⟩ := o1
  refine one_use (vs := [.ref e1, .ref e2, .ref e3, .ref e4]) (by walk_at "my_nil") (by walk_at "my_nil") ho B X TT F N hd hu (by simp only [List.mem_cons, true_or, or_true]) (.tail _ (.tail _ (.tail _ (.tail _ (.head _))))) hP
    ((e4, tupOf #[.ref q4, .str n4 t4]) :: (q4, listOf v4.toArray c4) :: (e3, tupOf #[.ref q3, .str n3 t3]) :: (q3, listOf v3.toArray c3) :: (e2, tupOf #[.ref q2, .str n2 t2]) :: (q2, listOf v2.toArray c2) :: (e1, tupOf #[.ref q1, .str n1 t1]) :: (q1, listOf v1.toArray c1) :: (C, oc) :: tl)
    (by walk_at "my_sub") (by simp only [all_cons]; exact ⟨o41, o42, o31, o32, o21, o22, o11, o12, hC, htn⟩) ?_ hf hk
  intro h' tk' v o' F' ho' N' hv
  simp only [List.mem_cons, List.not_mem_nil, or_false] at hv
  rcases hv with rfl | rfl | rfl | rfl
  · exact h h' tk' o' e1 q1 v1 c1 n1 t1 m1 F' ho' (by walk_at "my_nil") (by walk_at "my_nil") (News.sub N' (by walk_at "my_sub")) s1 k1
  · exact h h' tk' o' e2 q2 v2 c2 n2 t2 m2 F' ho' (by walk_at "my_nil") (by walk_at "my_nil") (News.sub N' (by walk_at "my_sub")) s2 k2
  · exact h h' tk' o' e3 q3 v3 c3 n3 t3 m3 F' ho' (by walk_at "my_nil") (by walk_at "my_nil") (News.sub N' (by walk_at "my_sub")) s3 k3
  · exact h h' tk' o' e4 q4 v4 c4 n4 t4 m4 F' ho' (by walk_at "my_nil") (by walk_at "my_nil") (News.sub N' (by walk_at "my_sub")) s4 k4
end
set_option maxHeartbeats 8000000 in
theorem right_spec (w : World) (sr t ev : Addr) (n : Nat) (tkn : Tok) (T : List NRow) (W : WF T) (r : Nat) (hrT : r < T.length) (hrp : par T r = none) (hn : n ∈ walked T r) (hb : beside T n = false) :
    RW1 w 544 [.ref sr, .ref t, .ref ev, .int n tkn] 40 (fun g h => Tree01 w g t T ∧ NList g ev (walked T r) ∧ CodeHd g 193 191 ∧ ∃ o tl, SrcO o ∧ IoTab tl ∧ Hid g h ((sr, o) :: tl) ∧ ∀ p ∈ tl, @Ne Nat p.1 sr)
      (fun g _ h' v => v = .bool true ∧ ∃ o tl, SrcO o ∧ IoTab tl ∧ Hid g h' ((sr, o) :: tl) ∧ ∀ p ∈ tl, @Ne Nat p.1 sr) := by
  intro A s g Q E H hst hsz hr hp hret
  obtain ⟨hp, ⟨evs, hl, hv⟩, hcd, o, tl, ho, htl, hhid, htn⟩ := hp
  obtain ⟨dt, rl, tk1, ep1, I1⟩ := hp.inst
  have hT := W.small
  have hnT := (walked_mem W hrT n hn).2
  have hvl := hv.len
  have hwl := walked_len W hrT
  walk_at "my_enterGC"
  walk_at "my_steps"
  rename_i L' h1 tk2 B X TT l0 hd' hu' oc dc q1 _ a1 e1 _ b1 q2 _ a2 e2 _ b2 P _ cP _ _ q3 _ a3 e3 _ b3 _ _ q4 _ a4 e4 _ b4 _ F N
  replace dc : oc.data = .cell none := dc
  have ltl : ∀ p ∈ tl, p.1 < L' := fun p hp => l0 p (.tail _ hp)
  have lsr : @LT.lt Nat _ sr L' := l0 (sr, o) (.head _)
  refine pairs_use (T := T) (r := r) (n := n) ho B X TT F N (by omega) (by omega) (by omega) (by simp only [all_cons, all_nil, and_true]; omega) (by omega) htn
    (m1 := [Str.ofString "child", Str.ofString "descendant-or-self"]) (m2 := [Str.ofString "parent", Str.ofString "ancestor-or-self"]) (m3 := [Str.ofString "ancestor-or-self", Str.ofString "following-sibling", Str.ofString "descendant-or-self"]) (m4 := [Str.ofString "ancestor-or-self", Str.ofString "preceding-sibling", Str.ofString "descendant-or-self"])
    (by simp [SV]) (by simp [SV]) (by simp [SV]) (by simp [SV]) ⟨by decide, by decide, by decide, by decide, steps_desc W hrT hrp hn⟩ ⟨by decide, by decide, by decide, by decide, steps_anc W hrT hrp hn⟩ ⟨by decide, by decide, by decide, by decide, steps_foll W hrT hrp hn hb⟩ ⟨by decide, by decide, by decide, by decide, steps_prec W hrT hrp hn hb⟩ ?_ rfl rfl
  intro h5 tk5 o5 tq lq lv c5 name tn nms F5 ho5 htq hlq N5 hsv hpk
  have hax := hpk.one
  have htq1 : @LT.lt Nat _ (L' + 1) tq := by
    simp only [List.mem_cons, List.not_mem_nil, or_false] at htq
    rcases htq with e | e | e | e <;> rw [e] <;> omega
  have hlq1 : @LT.lt Nat _ (L' + 1) lq := by
    simp only [List.mem_cons, List.not_mem_nil, or_false] at hlq
    rcases hlq with e | e | e | e <;> rw [e] <;> omega
  clear N F a1 b1 a2 b2 a3 b3 a4 b4 htq hlq
  walk_at "my_steps"
  rename_i ld vd cd F N nvd lld _ l1
  have N2 := News.sub N (l' := (L' + 1, oc) :: (ld, listOf vd.toArray cd) :: (tq, tupOf #[.ref lq, .str name tn]) :: (lq, listOf lv.toArray c5) :: (sr, o5) :: tl) (by walk_at "my_sub")
  obtain ⟨l11, l12, l13, l14, l15⟩ := l1
  refine storeX_C F N2 (c := L' + 1) rfl (UpdF.head (by
    simp only [all_cons]
    exact ⟨Ne.symm l13, Nat.ne_of_gt htq1, Nat.ne_of_gt hlq1, Nat.ne_of_lt (Nat.lt_trans lsr (Nat.lt_succ_self _)), fun p hp => Nat.ne_of_lt (Nat.lt_trans (ltl p hp) (Nat.lt_succ_self _))⟩)) dc ?_
  clear F N N2
  intro h6 oc6 F N dc6
  try dsimp only at N
  walk_at "my_steps"
  rename_i lo h7 F N llo
  refine rw_use (led_spec w t lo lq nms T W r [n] hrT hrp (by intro x hx; rw [List.mem_singleton.mp hx]; exact hn) (by simp) hpk.all hpk.pos hpk.low) B X TT F N (by walk_at "my_room") (by walk_at "my_room") tl ((lo, listOf [Value.int (n : Nat) tkn].toArray 0) :: (lq, listOf lv.toArray c5) :: (L' + 1, oc6) :: (ld, listOf vd.toArray cd) :: [(sr, o5)]) (by walk_at "my_sub") ?_ ?_
    (fun g' st1 h1' h2 st2 => ⟨hp.stays st1, ⟨_, ⟨_, h2 _ (.head _), rfl, _, rfl⟩, NV.one⟩, ⟨lv, ⟨_, h2 _ (.tail _ (.head _)), rfl, _, rfl⟩, hsv⟩, hcd.keeps (fun b o e => st1 b o e), tl, htl, h1'⟩) ?_ rfl rfl
  · intro p hp
    simp only [List.mem_cons, List.not_mem_nil, or_false] at hp
    rcases hp with rfl | rfl | rfl | rfl | rfl
    · exact .head _
    · exact .tail _ (.tail _ (.tail _ (.tail _ (.head _))))
    · exact .tail _ (.head _)
    · exact .tail _ (.tail _ (.head _))
    · exact .tail _ (.tail _ (.tail _ (.tail _ (.tail _ (.head _)))))
  · intro p hp q hq
    simp only [List.mem_cons, List.not_mem_nil, or_false] at hp
    have lq1 := ltl q hq
    rcases hp with rfl | rfl | rfl | rfl | rfl
    · exact Nat.ne_of_gt (allLt_mem llo.2.2.2.2.2 q hq)
    · exact Nat.ne_of_gt (Nat.lt_trans lq1 (Nat.lt_trans (Nat.lt_succ_self _) hlq1))
    · exact Nat.ne_of_gt (Nat.lt_trans lq1 (Nat.lt_succ_self _))
    · exact (l15 q hq).symm
    · exact (htn q hq).symm
  rintro g8 h8 tk8 r8 F8 N8 st8 hl8 kp8 ⟨⟨tl2, htl2, hh2⟩, la, va, ca, rfl, e2, e3, e4, e5⟩
  have Na := hl8 [(la, listOf va.toArray ca)] (fun q hq => by rw [List.mem_singleton.mp hq]; exact ⟨e2, e4⟩)
  have Nt := hl8 tl2 hh2
  have hap := hid_apart hh2 kp8
  have N9 : News g L' h8 ((la, listOf va.toArray ca) :: (L' + 1, oc6) :: (ld, listOf vd.toArray cd) :: (sr, o5) :: tl2) := by
    simp only [News, all_cons, all_nil, and_true] at Na N8 Nt ⊢
    exact ⟨Na, N8.2.2.1, N8.2.2.2.1, N8.2.2.2.2, Nt⟩
  clear N N8 Na Nt F
  walk_at "my_steps"
  refine eval_comp (cl := [(Str.ofString "due", L' + 1)]) F8 rfl (by decide) rfl (by decide) rfl ?_
  walk_at "my_steps"
  refine comp_list (σ := StL) (fun _ => []) (fun c => c.ys) (fun k c => NV c.ys (((walked T r).take k).filter fun x => decide (x ∈ axisL T n name))) ⟨[]⟩ ((la, listOf va.toArray ca) :: (L' + 1, oc6) :: (ld, listOf vd.toArray cd) :: (sr, o5) :: tl2) rfl (list_keep hl F8) (base_ne_L F8 hl) (by rw [sizeLine_eq]; omega)
    F8 N9 (by walk_at "my_sub") (by walk_at "my_nil") (by walk_at "my_nil") rfl .nil ?_ ?_
  · rintro k v ⟨ys⟩ h tk own C oC m₂ E' hvi hi2 h1 hyl hC hoC hx F N hsep
    dsimp only at h1 hyl N hsep ⊢
    obtain ⟨x, tx, hx2, rfl⟩ := hv.get hvi
    have N2 : News g L' h ((C, oC) :: (la, listOf va.toArray ca) :: (L' + 1, oc6) :: (ld, listOf vd.toArray cd) :: (sr, o5) :: (tl2 ++ own)) := News.sub N (by walk_at "my_sub")
    walk_at "my_steps"
    · refine CompEnd.intro (⟨ys ++ [.int x tx]⟩ : StL) F N2 (by walk_at "my_sub") rfl ?_ (by walk_at "my_nil")
      show NV (ys ++ [.int (x : Nat) tx]) _
      rename_i hx3
      rw [List.take_add_one, hx2, List.filter_append]
      simp only [Option.toList_some, List.filter_cons, List.filter_nil, hx3, decide_true, if_true]
      exact h1.app .one
    · refine CompEnd.intro (⟨ys⟩ : StL) F N2 (by walk_at "my_sub") rfl ?_ (by walk_at "my_nil")
      show NV ys _
      rename_i hx3
      rw [List.take_add_one, hx2, List.filter_append]
      simp only [Option.toList_some, List.filter_cons, List.filter_nil, hx3, decide_false, Bool.false_eq_true, if_false, List.append_nil]
      exact h1
  · rintro D ⟨ys⟩ h tk h1 hyl F N hD hsep
    dsimp only at h1 hyl N hsep hD ⊢
    rw [hvl, List.take_length] at h1
    walk_at "my_steps"
    rw [decide_eq_true hpk.eq]
    refine hret _ _ _ F.keep ⟨rfl, o5, tl2, ho5, htl2, hid_of (News.sub N (by walk_at "my_sub")), fun p hp => (hap p hp (sr, o5) (by simp)).symm⟩
end
section
local macro_rules | `(tactic| walk_at "my_none") => `(tactic| skip)
theorem tree_in {C R : Addr} {P : Params} {g h : Heap} {L t : Addr} {T : List NRow} {l news : List (Addr × Obj)} (N : News g L h news) (H : TreeL C R P t T l) (hs : ∀ p ∈ l, p ∈ news) : TreeAt C R P h t T := H.at fun p hp => (N p (hs p hp)).1
theorem lay_32 : True := by
  k_with "law37 my_sub" =>
    (
      (try simp only [trTop, List.cons_append, List.nil_append, List.append_nil, all_cons, all_app, all_nil, and_true, true_and, implies_true])
      and_intros
      all_goals first
        | (simp only [List.mem_cons, List.mem_append, true_or, or_true]; done)
        | (intro p hp; simp only [List.mem_cons, List.mem_append, hp, true_or, or_true]; done)
        | (simp only [List.mem_cons, List.mem_append]; (repeat (first | assumption | refine Or.inr ?_)); done))
  k_with "law38 my_sub" =>
    ((try dsimp only [trTop, List.nil_append, List.cons_append]); (repeat' (first | (refine Mine.fc ?q28m ?_; (case q28m => walk_at "my_mm")) | exact Mine.fn | with_reducible exact sub_r | with_reducible exact sub_al | with_reducible exact sub_a2 | with_reducible exact sub_a3 | with_reducible exact sub_as | with_reducible refine sub_app ?_ ?_ | with_reducible refine sub_t ?_ | with_reducible refine sub_ar ?_)); done)
  k_with "law39 my_pre" =>
    first
      | exact TreeAt.stays (by assumption) (Fr.keep (by assumption))
      | exact tree_in (by assumption) (by assumption) (by walk_at "my_sub")
  trivial
local macro_rules | `(tactic| walk_at "my_sub") => `(tactic| k_extra "law37 my_sub")
local macro_rules | `(tactic| walk_at "my_sub") => `(tactic| k_extra "law38 my_sub")
local macro_rules | `(tactic| walk_at "my_pre") => `(tactic| k_extra "law39 my_pre")

structure OffC (L a : Nat) : Prop where
  k1 : a ≠ L + 1
  k2 : a ≠ L + 1 + 1
  k3 : a ≠ L + 1 + 1 + 1
  k4 : a ≠ L + 1 + 1 + 1 + 1
  k5 : a ≠ L + 1 + 1 + 1 + 1 + 1
  k6 : a ≠ L + 1 + 1 + 1 + 1 + 1 + 1
theorem OffC.of {L a : Nat} {news : List (Addr × Obj)} {c1 c2 c3 c4 c5 c6 : Obj} (h : ∀ p ∈ news, @Ne Nat p.1 a) (hs : ∀ p ∈ [((L + 1 : Nat), c1), (L + 1 + 1, c2), (L + 1 + 1 + 1, c3), (L + 1 + 1 + 1 + 1, c4), (L + 1 + 1 + 1 + 1 + 1, c5), (L + 1 + 1 + 1 + 1 + 1 + 1, c6)], p ∈ news) : OffC L a :=
  ⟨(h (L + 1, c1) (hs _ (by simp))).symm, (h (L + 1 + 1, c2) (hs _ (by simp))).symm, (h (L + 1 + 1 + 1, c3) (hs _ (by simp))).symm, (h (L + 1 + 1 + 1 + 1, c4) (hs _ (by simp))).symm, (h (L + 1 + 1 + 1 + 1 + 1, c5) (hs _ (by simp))).symm, (h (L + 1 + 1 + 1 + 1 + 1 + 1, c6) (hs _ (by simp))).symm⟩
theorem OffC.low {L a : Nat} (h : a < L) : OffC L a := by constructor <;> omega
structure StN where
  o : Obj
structure StY where
  so : Obj
  ys : List Value
  ns : List Nat
theorem lay_33 : True := by
  k_with "law40 my_sub1" =>
    first | walk_at "my_mm" | simp only [List.mem_cons, List.mem_append, true_or, or_true]
  k_with "law41 call type:range" =>
    ((with_reducible show wpAny _ _ (call (Value.type "range") [Value.int _ _]) _ _ _); (refine range1_rows (by assumption) (by assumption) ?_); intro _ _ _ _ _ _ _ _ _; (try k_sweep))
  k_with "law42 exec For" =>
    (
      (with_reducible show wpAny _ _ (exec (Stmt.For (Expr.Name _ _) _ _ [] _) _) _ _ _)
      k_dflt (refine' For_turns ?q29F ?_ ?q29c ?q29d; (case q29F => assumption); (case q29c => exact fun _ => rfl); (case q29d => first | exact PassesOwn.never | passes_own)))
  trivial
local macro_rules | `(tactic| walk_at "my_sub1") => `(tactic| k_extra "law40 my_sub1")
local macro_rules | `(tactic| walk_at "call type:range") => `(tactic| k_extra "law41 call type:range")
local macro_rules | `(tactic| walk_at "exec For") => `(tactic| k_extra "law42 exec For")

set_option maxHeartbeats 16000000 in
theorem law_walk : PySem.Challenge.rw_nu0071_01.Holds := hd (by
  k_go0
  rename World => w
  rename IntsAre _ _ => hI
  rename_i h1 tk1 c6 c5 c4 c3 c2 c1 d6 d5 d4 d3 d2 d1 X0 X TT B F N l0
  clear X0
  replace d6 : c6.data = .cell none := d6
  replace d5 : c5.data = .cell none := d5
  replace d4 : c4.data = .cell none := d4
  replace d3 : c3.data = .cell none := d3
  replace d2 : c2.data = .cell none := d2
  replace d1 : c1.data = .cell none := d1
  have hdd : (1 + claimMargin + 1) + 100 < recursionLimit := by decide
  have huu : 7 + 8 * 100 + 200 < cLine := by decide
  rename Shared => s1
  change wpAny (model PySem.Challenge.pw_nu0071_01 _) (arnd (1 + claimMargin + 1) _ [] (some []) 7) _ _ _ _
  obtain ⟨QL, hret, hQL⟩ : ∃ QL : Flow → Shared → Prop, (∀ h' tk', (ghostOf s1.heap [(193, 191)]).StaysIn h' → GrownAll [(193, 191)] h' → QL (.ret (.bool true)) (⟨h', s1.gens, s1.drawn, tk', s1.os⟩ : Shared)) ∧
      (∀ fl s', QL fl s' → ∃ h' tk', fl = Flow.ret (.bool true) ∧ s' = (⟨h', s1.gens, s1.drawn, tk', s1.os⟩ : Shared) ∧ (ghostOf s1.heap [(193, 191)]).StaysIn h' ∧ GrownAll [(193, 191)] h') :=
    ⟨fun fl s' => ∃ h' tk', fl = Flow.ret (.bool true) ∧ s' = (⟨h', s1.gens, s1.drawn, tk', s1.os⟩ : Shared) ∧ (ghostOf s1.heap [(193, 191)]).StaysIn h' ∧ GrownAll [(193, 191)] h', fun h' tk' a b => ⟨h', tk', rfl, rfl, a, b⟩, fun _ _ q => q⟩
  refine wpAny_mono (Q := QL) (E := fun _ _ => False) ?_ (fun fl s' q => by
    obtain ⟨h', tk', rfl, rfl, st, gr⟩ := hQL _ _ q
    refine ⟨⟨.inl ⟨.bool true, .bool true, [], rfl, fun _ => rfl, .bool _, ?_, ?_⟩, st, rfl, ?_⟩, gr⟩
    · first | with_unfolding_all rfl | kernel_rfl | (simp [PySem.Challenge.rw_nu0071_01, OpenLaw.row]; done)
    · exact fun _ => ⟨.nil, fun _ h => nomatch h⟩
    · assumption) (fun _ _ q => q.elim)
  generalize (1 + claimMargin + 1) = dd at hdd ⊢
  generalize (7 : Nat) = uu at huu ⊢
  replace codeHd : CodeHd _ 193 191 := codeHd
  rename_i hlen _
  generalize hL : Array.size _ = L at F N l0 ⊢
  generalize ghostOf s1.heap [(193, 191)] = g at B X TT F N lifted codeHd hret ⊢
  clear hQL
  replace F : Fr g L h1 (fun y => if y = Str.ofString "script" then some (.ref _) else none) := F
  have otab : OffC L 191 := OffC.low l0
  walk_at "my_steps"
  refine ro_use (pool_spec _ _ _ (by omega)) B X TT F N (by walk_at "my_room") (by walk_at "my_room") ⟨_, list_keep lifted F, hI⟩ ?_ rfl rfl
  rintro h2 tk2 r2 F2 N2 st2 ⟨sr, rfl, hsr, hsrn⟩
  obtain ⟨so, hso, hsr⟩ := hsr.o
  have N3 := news_in F N2 st2 hsr hsrn
  have a1 : ∀ p ∈ (L + 1 + 1 + 1 + 1 + 1 + 1, c6) :: (L + 1 + 1 + 1 + 1 + 1, c5) :: (L + 1 + 1 + 1 + 1, c4) :: (L + 1 + 1 + 1, c3) :: (L + 1 + 1, c2) :: (L + 1, c1) :: [(191, tabObj #[])], @Ne Nat p.1 sr := fun p hp => ne_none hsrn (N p hp).1
  have osr : OffC L sr := OffC.of (c1 := c1) (c2 := c2) (c3 := c3) (c4 := c4) (c5 := c5) (c6 := c6) (a1) (by walk_at "my_sub")
  clear N N2 F st2
  have NS := News.sub N3 (l' := (L + 1, c1) :: (L + 1 + 1 + 1 + 1 + 1 + 1, c6) :: (L + 1 + 1 + 1 + 1 + 1, c5) :: (L + 1 + 1 + 1 + 1, c4) :: (L + 1 + 1 + 1, c3) :: (L + 1 + 1, c2) :: (sr, so) :: (191, tabObj #[]) :: []) (by walk_at "my_sub")
  refine storeX_C F2 NS (c := L + 1) rfl (UpdF.head (fc (show @Ne Nat (L + 1 + 1 + 1 + 1 + 1 + 1) (L + 1) by omega) (fc (show @Ne Nat (L + 1 + 1 + 1 + 1 + 1) (L + 1) by omega) (fc (show @Ne Nat (L + 1 + 1 + 1 + 1) (L + 1) by omega) (fc (show @Ne Nat (L + 1 + 1 + 1) (L + 1) by omega) (fc (show @Ne Nat (L + 1 + 1) (L + 1) by omega) (fc osr.k1 (fc otab.k1 (fn))))))))) d1 ?_
  clear N3 F2 NS
  intro h3 e1 F N x1
  try dsimp only at N
  walk_at "my_steps"
  refine rw_use (tree_spec _ sr _) B X TT F N (by walk_at "my_room") (by walk_at "my_room") [(sr, so)] ((L + 1 + 1 + 1 + 1 + 1 + 1, c6) :: (L + 1 + 1 + 1 + 1 + 1, c5) :: (L + 1 + 1 + 1 + 1, c4) :: (L + 1 + 1 + 1, c3) :: (L + 1 + 1, c2) :: (L + 1, e1) :: [(191, tabObj #[])]) (by walk_at "my_sub") (by walk_at "my_sub") (fun p hp q hq => by
    rw [List.mem_singleton.mp hq]
    exact (fc osr.k6.symm (fc osr.k5.symm (fc osr.k4.symm (fc osr.k3.symm (fc osr.k2.symm (fc osr.k1.symm (fc (a1 (191, tabObj #[]) (by simp)) fn)))))) : ∀ p ∈ (L + 1 + 1 + 1 + 1 + 1 + 1, c6) :: (L + 1 + 1 + 1 + 1 + 1, c5) :: (L + 1 + 1 + 1 + 1, c4) :: (L + 1 + 1 + 1, c3) :: (L + 1 + 1, c2) :: (L + 1, e1) :: [(191, tabObj #[])], @Ne Nat p.1 sr) p hp) (fun g' _ hh _ _ => ⟨so, hso, hh⟩) ?_ rfl rfl
  rintro g4 h4 tk4 r4 F4 N4 st4 hl4 kp4 ⟨lr, t, tr, cr, TR, lt, o4, rfl, ho4, htl, hh4, b1, b2, b3, W, hT0, hk0⟩
  have hap := hid_apart hh4 kp4
  have N5 := news_two (hl4 _ hh4) N4
  obtain ⟨dtt, rlt, tkt, ept, lt', rfl⟩ := htl.head
  dsimp only [List.cons_append] at N5
  clear N N4 F hl4 hh4 kp4
  have olr : OffC L lr := OffC.of (c1 := e1) (c2 := c2) (c3 := c3) (c4 := c4) (c5 := c5) (c6 := c6) (fun q hq => hap _ (.head _) q hq) (by walk_at "my_sub")
  have olT : ∀ p ∈ trTop w t dtt rlt tkt ept lt', OffC L p.1 := fun p hp => OffC.of (c1 := e1) (c2 := c2) (c3 := c3) (c4 := c4) (c5 := c5) (c6 := c6) (fun q hq => hap p (.tail _ (.tail _ hp)) q hq) (by walk_at "my_sub")
  have olt2 : ∀ p ∈ trTop w t dtt rlt tkt ept lt', @Ne Nat p.1 191 := fun p hp => (hap p (.tail _ (.tail _ hp)) (191, tabObj #[]) (by simp)).symm
  clear hap
  walk_at "my_steps"
  rename News _ _ _ _ => N
  rename Fr _ _ _ _ => F
  have NS := News.sub N (l' := (L + 1 + 1, c2) :: (L + 1 + 1 + 1 + 1 + 1 + 1, c6) :: (L + 1 + 1 + 1 + 1 + 1, c5) :: (L + 1 + 1 + 1 + 1, c4) :: (L + 1 + 1 + 1, c3) :: (L + 1, e1) :: (lr, listOf [Value.ref t, .int 0 tr].toArray cr) :: (sr, o4) :: (191, tabObj #[]) :: trTop w t dtt rlt tkt ept lt') (by walk_at "my_sub")
  refine storeX_C F NS (c := L + 1 + 1) rfl (UpdF.head (fc (show @Ne Nat (L + 1 + 1 + 1 + 1 + 1 + 1) (L + 1 + 1) by omega) (fc (show @Ne Nat (L + 1 + 1 + 1 + 1 + 1) (L + 1 + 1) by omega) (fc (show @Ne Nat (L + 1 + 1 + 1 + 1) (L + 1 + 1) by omega) (fc (show @Ne Nat (L + 1 + 1 + 1) (L + 1 + 1) by omega) (fc (show @Ne Nat (L + 1) (L + 1 + 1) by omega) (fc olr.k2 (fc osr.k2 (fc otab.k2 (fun p hp => (olT p hp).k2)))))))))) d2 ?_
  clear N F NS
  intro h5 e2 F N x2
  try dsimp only at N
  walk_at "my_steps"
  have hsm := W.small
  have hbr : beside TR 0 = false := by
    cases hb : beside TR 0 with
    | false => rfl
    | true =>
      rcases beside_iff.mp hb with h | h <;> (rw [hk0] at h; exact absurd h (by decide))
  have hp0 : par TR 0 = none := (W.root 0 hT0).mpr hk0
  rename News _ _ _ _ => N
  rename Fr _ _ _ _ => F
  refine ro_useL (walked_spec _ t TR W TR.length 0 tr (by omega) hT0) B X TT F N (by walk_at "my_room") (by walk_at "my_room") (tree_in N htl (by walk_at "my_sub")) ?_ rfl rfl
  intro h6 tk6 le ve ce F6 N6 n6 nve lve st6
  clear N F
  have ole : OffC L le := OffC.of (c1 := e1) (c2 := e2) (c3 := c3) (c4 := c4) (c5 := c5) (c6 := c6) (n6) (by walk_at "my_sub")
  have ltab : @Ne Nat le 191 := (n6 (191, tabObj #[]) (by walk_at "my_sub1")).symm
  have les : @Ne Nat le sr := (n6 (sr, o4) (by walk_at "my_sub1")).symm
  have NS := News.sub N6 (l' := (L + 1 + 1 + 1, c3) :: (L + 1 + 1 + 1 + 1 + 1 + 1, c6) :: (L + 1 + 1 + 1 + 1 + 1, c5) :: (L + 1 + 1 + 1 + 1, c4) :: (L + 1 + 1, e2) :: (L + 1, e1) :: (le, listOf ve.toArray ce) :: (sr, o4) :: (191, tabObj #[]) :: trTop w t dtt rlt tkt ept lt') (by walk_at "my_sub")
  refine storeX_C F6 NS (c := L + 1 + 1 + 1) rfl (UpdF.head (fc (show @Ne Nat (L + 1 + 1 + 1 + 1 + 1 + 1) (L + 1 + 1 + 1) by omega) (fc (show @Ne Nat (L + 1 + 1 + 1 + 1 + 1) (L + 1 + 1 + 1) by omega) (fc (show @Ne Nat (L + 1 + 1 + 1 + 1) (L + 1 + 1 + 1) by omega) (fc (show @Ne Nat (L + 1 + 1) (L + 1 + 1 + 1) by omega) (fc (show @Ne Nat (L + 1) (L + 1 + 1 + 1) by omega) (fc ole.k3 (fc osr.k3 (fc otab.k3 (fun p hp => (olT p hp).k3)))))))))) d3 ?_
  clear N6 NS F6 n6
  intro h7 e3 F N x3
  try dsimp only at N
  walk_at "my_steps"
  have hwl := walked_len W hT0
  have hvl := nve.len
  have N0 := News.sub N (l' := (L + 1 + 1 + 1 + 1 + 1 + 1, c6) :: (L + 1 + 1 + 1 + 1 + 1, c5) :: (L + 1 + 1 + 1 + 1, c4) :: (L + 1 + 1 + 1, e3) :: (L + 1 + 1, e2) :: (L + 1, e1) :: (le, listOf ve.toArray ce) :: (sr, o4) :: (191, tabObj #[]) :: trTop w t dtt rlt tkt ept lt') (by walk_at "my_sub")
  clear N
  refine wpAny_Assign_Name ?_
  refine eval_comp (cl := [(Str.ofString "tree", L + 1 + 1)]) F rfl (by decide) rfl (by decide) rfl ?_
  walk_at "my_steps"
  refine comp_list (σ := StL) (fun _ => []) (fun c => c.ys) (fun k c => NV c.ys (((walked TR 0).take k).filter fun x => !beside TR x)) ⟨[]⟩ _ rfl ⟨_, (N0 (le, listOf ve.toArray ce) (by walk_at "my_sub1")).1, rfl, _, rfl⟩ (N0 (le, listOf ve.toArray ce) (by walk_at "my_sub1")).2.1 (by rw [sizeLine_eq]; omega)
    F N0 (fun _ h => h) (by walk_at "my_nil") (by walk_at "my_nil") rfl .nil ?_ ?_
  · clear F N0
    rintro k v ⟨ys⟩ h tk own C oC m₂ E' hvi hi2 h1 hyl hC hoC hx F N hsep
    dsimp only at h1 hyl N hsep ⊢
    obtain ⟨x, tx, hx2, rfl⟩ := nve.get hvi
    have hxb := (walked_mem W hT0 x (List.mem_of_getElem? hx2)).2
    have N2 := News.sub N (l' := (C, oC) :: (L + 1 + 1 + 1 + 1 + 1 + 1, c6) :: (L + 1 + 1 + 1 + 1 + 1, c5) :: (L + 1 + 1 + 1 + 1, c4) :: (L + 1 + 1 + 1, e3) :: (L + 1 + 1, e2) :: (L + 1, e1) :: (le, listOf ve.toArray ce) :: (sr, o4) :: (191, tabObj #[]) :: trTop w t dtt rlt tkt ept (lt' ++ own)) (by walk_at "my_sub")
    walk_at "my_steps"
    · rename_i hbx
      rename News _ _ _ _ => N
      rename Fr _ _ _ _ => F
      refine CompEnd.intro (⟨ys⟩ : StL) F N (by walk_at "my_sub") rfl ?_ (by walk_at "my_nil")
      show NV ys _
      rw [List.take_add_one, hx2, List.filter_append]
      simp only [Option.toList_some, List.filter_cons, List.filter_nil, show beside TR x = true from hbx, Bool.not_true, Bool.false_eq_true, if_false, List.append_nil]
      exact h1
    · rename_i hbx
      rename News _ _ _ _ => N
      rename Fr _ _ _ _ => F
      refine CompEnd.intro (⟨ys ++ [.int x tx]⟩ : StL) F N (by walk_at "my_sub") rfl ?_ (by walk_at "my_nil")
      show NV (ys ++ [.int (x : Nat) tx]) _
      rw [List.take_add_one, hx2, List.filter_append]
      simp only [Option.toList_some, List.filter_cons, List.filter_nil, show beside TR x = false from hbx, Bool.not_false, if_true]
      exact h1.app .one
  clear F N0
  rintro pl ⟨yp⟩ h8 tk8 nvp hyp F N hD -
  dsimp only at nvp hyp N hD ⊢
  rw [hvl, List.take_length] at nvp
  change NV yp (plainL TR 0) at nvp
  change News _ L h8 ((pl, listOf yp.toArray yp.length) :: _) at N
  have opl : OffC L pl := OffC.of (c1 := e1) (c2 := e2) (c3 := e3) (c4 := c4) (c5 := c5) (c6 := c6) (hD) (by walk_at "my_sub")
  have ptab : @Ne Nat pl 191 := (hD (191, tabObj #[]) (by walk_at "my_sub1")).symm
  have pls : @Ne Nat pl sr := (hD (sr, o4) (by walk_at "my_sub1")).symm
  have NS := News.sub N (l' := (L + 1 + 1 + 1 + 1, c4) :: (L + 1 + 1 + 1 + 1 + 1 + 1, c6) :: (L + 1 + 1 + 1 + 1 + 1, c5) :: (L + 1 + 1 + 1, e3) :: (L + 1 + 1, e2) :: (L + 1, e1) :: (pl, listOf yp.toArray yp.length) :: (le, listOf ve.toArray ce) :: (sr, o4) :: (191, tabObj #[]) :: trTop w t dtt rlt tkt ept lt') (by walk_at "my_sub")
  refine storeX_C F NS (c := L + 1 + 1 + 1 + 1) rfl (UpdF.head (fc (show @Ne Nat (L + 1 + 1 + 1 + 1 + 1 + 1) (L + 1 + 1 + 1 + 1) by omega) (fc (show @Ne Nat (L + 1 + 1 + 1 + 1 + 1) (L + 1 + 1 + 1 + 1) by omega) (fc (show @Ne Nat (L + 1 + 1 + 1) (L + 1 + 1 + 1 + 1) by omega) (fc (show @Ne Nat (L + 1 + 1) (L + 1 + 1 + 1 + 1) by omega) (fc (show @Ne Nat (L + 1) (L + 1 + 1 + 1 + 1) by omega) (fc opl.k4 (fc ole.k4 (fc osr.k4 (fc otab.k4 (fun p hp => (olT p hp).k4))))))))))) d4 ?_

  clear F N NS hD
  intro h9 e4 F N x4
  try dsimp only at N
  have hzp := nvp.len
  have hplz : (plainL TR 0).length < 60 := Nat.lt_of_le_of_lt (List.length_filter_le _ _) hwl
  have hpl0 : 0 < (plainL TR 0).length := List.length_pos_of_mem (List.mem_filter.mpr ⟨walked_self W 0, by rw [hbr]; rfl⟩)
  walk_at "my_steps"
  rename News _ _ _ _ => N
  rename Fr _ _ _ _ => F
  refine one_use (vs := yp) (c := yp.length) (by omega) (by omega) ho4 B X TT F N (by omega) (by omega) (by walk_at "my_sub1") (by walk_at "my_sub1") pls ((L + 1 + 1 + 1 + 1 + 1 + 1, c6) :: (L + 1 + 1 + 1 + 1 + 1, c5) :: (L + 1 + 1 + 1 + 1, e4) :: (L + 1 + 1 + 1, e3) :: (L + 1 + 1, e2) :: (L + 1, e1) :: (pl, listOf yp.toArray yp.length) :: (le, listOf ve.toArray ce) :: (191, tabObj #[]) :: trTop w t dtt rlt tkt ept lt') (by walk_at "my_sub") (fc osr.k6.symm (fc osr.k5.symm (fc osr.k4.symm (fc osr.k3.symm (fc osr.k2.symm (fc osr.k1.symm (fc pls (fc les (fc (a1 (191, tabObj #[]) (by simp)) b2))))))))) ?_ rfl rfl
  intro h10 tk10 v10 o10 F10 ho10 N10 hv10
  obtain ⟨n, tn, hn, rfl⟩ := nv_mem nvp hv10
  have hnd := plain_mem W hT0 hp0 hbr hn
  have hnw := (doc_iff W hT0 hp0 hbr n).mp hnd
  have NS := News.sub N10 (l' := (L + 1 + 1 + 1 + 1 + 1, c5) :: (L + 1 + 1 + 1 + 1 + 1 + 1, c6) :: (L + 1 + 1 + 1 + 1, e4) :: (L + 1 + 1 + 1, e3) :: (L + 1 + 1, e2) :: (L + 1, e1) :: (pl, listOf yp.toArray yp.length) :: (le, listOf ve.toArray ce) :: (sr, o10) :: (191, tabObj #[]) :: trTop w t dtt rlt tkt ept lt') (by walk_at "my_sub")
  refine storeX_C F10 NS (c := L + 1 + 1 + 1 + 1 + 1) rfl (UpdF.head (fc (show @Ne Nat (L + 1 + 1 + 1 + 1 + 1 + 1) (L + 1 + 1 + 1 + 1 + 1) by omega) (fc (show @Ne Nat (L + 1 + 1 + 1 + 1) (L + 1 + 1 + 1 + 1 + 1) by omega) (fc (show @Ne Nat (L + 1 + 1 + 1) (L + 1 + 1 + 1 + 1 + 1) by omega) (fc (show @Ne Nat (L + 1 + 1) (L + 1 + 1 + 1 + 1 + 1) by omega) (fc (show @Ne Nat (L + 1) (L + 1 + 1 + 1 + 1 + 1) by omega) (fc opl.k5 (fc ole.k5 (fc osr.k5 (fc otab.k5 (fun p hp => (olT p hp).k5))))))))))) d5 ?_

  clear N NS F N10 F10 ho4
  intro h11 e5 F N x5
  try dsimp only at N
  walk_at "my_steps"
  refine ro_use (contrary_spec w t pl n tn TR W 0 (plainL TR 0) hT0 hp0 hbr (fun x hx => plain_mem W hT0 hp0 hbr hx) hnd) B X TT F N (by walk_at "my_room") (by walk_at "my_room") ⟨tree_in N htl (by walk_at "my_sub"), yp, ⟨_, (N (pl, listOf yp.toArray yp.length) (by walk_at "my_sub1")).1, rfl, _, rfl⟩, nvp⟩ ?_ rfl rfl
  rintro h12 tk12 r12 F12 N12 st12 rfl
  clear F N
  walk_at "my_steps"
  rename News _ _ _ _ => N
  rename Fr _ _ _ _ => F
  refine ro_use (parted_spec w t pl n tn TR W 0 (plainL TR 0) hT0 hp0 hbr (plain_perm W hT0 hp0 hbr) hnd) B X TT F N (by walk_at "my_room") (by walk_at "my_room") ⟨tree_in N htl (by walk_at "my_sub"), yp, ⟨_, (N (pl, listOf yp.toArray yp.length) (by walk_at "my_sub1")).1, rfl, _, rfl⟩, nvp⟩ ?_ rfl rfl
  rintro h13 tk13 r13 F13 N13 st13 rfl
  clear F N
  walk_at "my_steps"
  rename News _ _ _ _ => N
  rename Fr _ _ _ _ => F
  refine rw_use (right_spec w sr t le n tn TR W 0 hT0 hp0 hnw.1 hnw.2) B X TT F N (by walk_at "my_room") (by walk_at "my_room") ((sr, o10) :: [(191, tabObj #[])]) ((L + 1 + 1 + 1 + 1 + 1 + 1, c6) :: (L + 1 + 1 + 1 + 1 + 1, e5) :: (L + 1 + 1 + 1 + 1, e4) :: (L + 1 + 1 + 1, e3) :: (L + 1 + 1, e2) :: (L + 1, e1) :: (pl, listOf yp.toArray yp.length) :: (le, listOf ve.toArray ce) :: trTop w t dtt rlt tkt ept lt') (by walk_at "my_sub") (by walk_at "my_sub") ?_
    (fun g' st1 h1' h2' _ => ⟨htl.at (fun p hp => h2' p ((by walk_at "my_sub" : ∀ p ∈ trTop w t dtt rlt tkt ept lt', p ∈ (L + 1 + 1 + 1 + 1 + 1 + 1, c6) :: (L + 1 + 1 + 1 + 1 + 1, e5) :: (L + 1 + 1 + 1 + 1, e4) :: (L + 1 + 1 + 1, e3) :: (L + 1 + 1, e2) :: (L + 1, e1) :: (pl, listOf yp.toArray yp.length) :: (le, listOf ve.toArray ce) :: trTop w t dtt rlt tkt ept lt') p hp)), ⟨ve, ⟨_, h2' (le, listOf ve.toArray ce) (by walk_at "my_sub1"), rfl, _, rfl⟩, nve⟩, codeHd.keeps (fun b o e => st1 b o e), o10, _, ho10, .fresh, h1', fc (a1 (191, tabObj #[]) (by simp)) fn⟩) ?_ rfl rfl
  · intro p hp q hq
    rcases List.mem_cons.mp hq with rfl | hq
    · exact (fc osr.k6.symm (fc osr.k5.symm (fc osr.k4.symm (fc osr.k3.symm (fc osr.k2.symm (fc osr.k1.symm (fc pls (fc les b2))))))) : ∀ p ∈ (L + 1 + 1 + 1 + 1 + 1 + 1, c6) :: (L + 1 + 1 + 1 + 1 + 1, e5) :: (L + 1 + 1 + 1 + 1, e4) :: (L + 1 + 1 + 1, e3) :: (L + 1 + 1, e2) :: (L + 1, e1) :: (pl, listOf yp.toArray yp.length) :: (le, listOf ve.toArray ce) :: trTop w t dtt rlt tkt ept lt', @Ne Nat p.1 sr) p hp
    · rw [List.mem_singleton.mp hq]
      exact (fc otab.k6.symm (fc otab.k5.symm (fc otab.k4.symm (fc otab.k3.symm (fc otab.k2.symm (fc otab.k1.symm (fc ptab (fc ltab olt2))))))) : ∀ p ∈ (L + 1 + 1 + 1 + 1 + 1 + 1, c6) :: (L + 1 + 1 + 1 + 1 + 1, e5) :: (L + 1 + 1 + 1 + 1, e4) :: (L + 1 + 1 + 1, e3) :: (L + 1 + 1, e2) :: (L + 1, e1) :: (pl, listOf yp.toArray yp.length) :: (le, listOf ve.toArray ce) :: trTop w t dtt rlt tkt ept lt', @Ne Nat p.1 191) p hp
  rintro g14 h14 tk14 r14 F14 N14 st14 hl14 kp14 ⟨rfl, o14, tl, ho14, htl14, hh14, htn14⟩
  have hap := hid_apart hh14 kp14
  have N15 := news_two (hl14 _ hh14) N14
  clear N N14 F hl14 hh14 kp14
  dsimp only [List.cons_append] at N15
  walk_at "my_steps"
  have oTl : ∀ p ∈ tl, OffC L p.1 := fun p hp => OffC.of (c1 := e1) (c2 := e2) (c3 := e3) (c4 := e4) (c5 := e5) (c6 := c6) (fun q hq => hap p (.tail _ hp) q hq) (by walk_at "my_sub")
  have N16 := News.sub N15 (l' := (L + 1 + 1 + 1 + 1 + 1 + 1, c6) :: (L + 1 + 1 + 1 + 1 + 1, e5) :: (L + 1 + 1 + 1 + 1, e4) :: (L + 1 + 1 + 1, e3) :: (L + 1 + 1, e2) :: (L + 1, e1) :: (pl, listOf yp.toArray yp.length) :: (le, listOf ve.toArray ce) :: (sr, o14) :: trTop w t dtt rlt tkt ept (lt' ++ tl)) (by walk_at "my_sub")
  clear N15
  refine assign_comp (cl := [(Str.ofString "plain", L + 1 + 1 + 1 + 1)]) F14 rfl rfl rfl (by decide) rfl (by decide) rfl rfl rfl ?_
  walk_at "my_steps"
  refine comp_list (σ := StL) (fun _ => []) (fun c => c.ys) (fun k c => NV c.ys (((walked TR 0).take k).filter fun x => beside TR x)) ⟨[]⟩ _ rfl ⟨_, (N16 (le, listOf ve.toArray ce) (by walk_at "my_sub1")).1, rfl, _, rfl⟩ (N16 (le, listOf ve.toArray ce) (by walk_at "my_sub1")).2.1 (by rw [sizeLine_eq]; omega)
    F14 N16 (fun _ h => h) (by walk_at "my_nil") (by walk_at "my_nil") rfl .nil ?_ ?_
  · clear F14 N16
    rintro k v ⟨ys⟩ h tk own C oC m₂ E' hvi hi2 h1 hyl hC hoC hx F N hsep
    dsimp only at h1 hyl N hsep ⊢
    obtain ⟨x, tx, hx2, rfl⟩ := nve.get hvi
    have hxw : x ∈ walked TR 0 := List.mem_of_getElem? hx2
    have hiff : x ∈ plainL TR 0 ↔ beside TR x = false := by
      unfold plainL
      rw [List.mem_filter]
      simp [hxw]
    have N2 := News.sub N (l' := (C, oC) :: (L + 1 + 1 + 1 + 1 + 1 + 1, c6) :: (L + 1 + 1 + 1 + 1 + 1, e5) :: (L + 1 + 1 + 1 + 1, e4) :: (L + 1 + 1 + 1, e3) :: (L + 1 + 1, e2) :: (L + 1, e1) :: (pl, listOf yp.toArray yp.length) :: (le, listOf ve.toArray ce) :: (sr, o14) :: trTop w t dtt rlt tkt ept (lt' ++ (tl ++ own))) (by walk_at "my_sub")
    walk_at "my_steps"
    · rename_i hbx
      refine CompEnd.intro (⟨ys⟩ : StL) F N2 (by walk_at "my_sub") rfl ?_ (by walk_at "my_nil")
      show NV ys _
      rw [List.take_add_one, hx2, List.filter_append]
      simp only [Option.toList_some, List.filter_cons, List.filter_nil, hiff.mp hbx, Bool.false_eq_true, if_false, List.append_nil]
      exact h1
    · rename_i hbx
      have hbt : beside TR x = true := by
        cases hb : beside TR x with
        | true => rfl
        | false => exact absurd (hiff.mpr hb) hbx
      refine CompEnd.intro (⟨ys ++ [.int x tx]⟩ : StL) F N2 (by walk_at "my_sub") rfl ?_ (by walk_at "my_nil")
      show NV (ys ++ [.int (x : Nat) tx]) _
      rw [List.take_add_one, hx2, List.filter_append]
      simp only [Option.toList_some, List.filter_cons, List.filter_nil, hbt, if_true]
      exact h1.app .one
  clear F14 N16
  rintro bs ⟨yb⟩ h15 tk15 nvb hyb F N hD -
  dsimp only at nvb hyb N hD ⊢
  rw [hvl, List.take_length] at nvb
  change News _ L h15 ((bs, listOf yb.toArray yb.length) :: _) at N
  have obs : OffC L bs := OffC.of (c1 := e1) (c2 := e2) (c3 := e3) (c4 := e4) (c5 := e5) (c6 := c6) (hD) (by walk_at "my_sub")
  have hzb := nvb.len
  have hbz : ((walked TR 0).filter fun x => beside TR x).length < 60 := Nat.lt_of_le_of_lt (List.length_filter_le _ _) hwl
  have hbs2 : ∀ p ∈ trTop w t dtt rlt tkt ept (lt' ++ tl), @Ne Nat p.1 bs := fun p hp => hD p ((by walk_at "my_sub" : ∀ p ∈ trTop w t dtt rlt tkt ept (lt' ++ tl), p ∈ [] ++ ((L + 1 + 1 + 1 + 1 + 1 + 1, c6) :: (L + 1 + 1 + 1 + 1 + 1, e5) :: (L + 1 + 1 + 1 + 1, e4) :: (L + 1 + 1 + 1, e3) :: (L + 1 + 1, e2) :: (L + 1, e1) :: (pl, listOf yp.toArray yp.length) :: (le, listOf ve.toArray ce) :: (sr, o14) :: trTop w t dtt rlt tkt ept (lt' ++ tl))) p hp)
  have bss : @Ne Nat bs sr := (hD (sr, o14) (by walk_at "my_sub1")).symm
  clear hD
  have N17 := News.sub N (l' := (L + 1 + 1 + 1 + 1 + 1 + 1, c6) :: (L + 1 + 1 + 1 + 1 + 1, e5) :: (L + 1 + 1 + 1 + 1, e4) :: (L + 1 + 1 + 1, e3) :: (L + 1 + 1, e2) :: (L + 1, e1) :: (bs, listOf yb.toArray yb.length) :: (pl, listOf yp.toArray yp.length) :: (le, listOf ve.toArray ce) :: (sr, o14) :: trTop w t dtt rlt tkt ept (lt' ++ tl)) (by walk_at "my_sub")
  clear N
  w_top off
  walk_at "my_steps"
  rename_i bz _ F N lbz
  have nvbz := nvb.take 2
  have obz : OffC L bz := ⟨by omega, by omega, by omega, by omega, by omega, by omega⟩
  refine iter_listN rfl (σ := StN) (x := Str.ofString "node") (fun c => [(L + 1 + 1 + 1 + 1 + 1, c.o)]) (fun _ => []) [Str.ofString "around"] (fun _ c => ∃ v0, c.o.data = .cell v0) ⟨e5⟩ ((L + 1 + 1 + 1 + 1 + 1 + 1, c6) :: (L + 1 + 1 + 1 + 1, e4) :: (L + 1 + 1 + 1, e3) :: (L + 1 + 1, e2) :: (L + 1, e1) :: (bz, listOf (List.take 2 yb).toArray 0) :: (bs, listOf yb.toArray yb.length) :: (pl, listOf yp.toArray yp.length) :: (le, listOf ve.toArray ce) :: (sr, o14) :: trTop w t dtt rlt tkt ept (lt' ++ tl))
    rfl ⟨_, (N _ (.head _)).1, rfl, _, rfl⟩ (N _ (.head _)).2.1 F N (by walk_at "my_sub") (fun q hq => by
      rw [List.mem_singleton.mp hq]
      exact fc (show @Ne Nat (L + 1 + 1 + 1 + 1 + 1 + 1) (L + 1 + 1 + 1 + 1 + 1) by omega) (fc (show @Ne Nat (L + 1 + 1 + 1 + 1) (L + 1 + 1 + 1 + 1 + 1) by omega) (fc (show @Ne Nat (L + 1 + 1 + 1) (L + 1 + 1 + 1 + 1 + 1) by omega) (fc (show @Ne Nat (L + 1 + 1) (L + 1 + 1 + 1 + 1 + 1) by omega) (fc (show @Ne Nat (L + 1) (L + 1 + 1 + 1 + 1 + 1) by omega) (fc obz.k5 (fc obs.k5 (fc opl.k5 (fc ole.k5 (fc osr.k5 (fun p hp => (List.mem_append.mp (show p ∈ trTop w t dtt rlt tkt ept lt' ++ tl from hp)).elim (fun hp => (olT p hp).k5) (fun hp => (oTl p hp).k5)))))))))))) (fun k c _ p hp => by
      rw [List.mem_singleton.mp hp]; exact obz.k5.symm) (by simp) ⟨_, x5⟩ ?_ ?_
  · clear F N lbz
    rintro k v ⟨o⟩ u h tk own hvi hki ⟨v0, hd0⟩ F N hsep
    dsimp only at F N hd0 hsep ⊢
    obtain ⟨x, tx, hx2, rfl⟩ := nvbz.get hvi
    obtain ⟨hxw, hxb⟩ := List.mem_filter.mp (List.mem_of_mem_take (List.mem_of_getElem? hx2))
    have hxT := (walked_mem W hT0 x hxw).2
    obtain ⟨g1, g2, g3, q, hq, g4⟩ := beside_bare W hxT (by simpa using hxb)
    have hown := List.forall_mem_append.mp (hsep _ (.head _))
    have NS := News.sub N (l' := (L + 1 + 1 + 1 + 1 + 1, o) :: ((L + 1 + 1 + 1 + 1 + 1 + 1, c6) :: (L + 1 + 1 + 1 + 1, e4) :: (L + 1 + 1 + 1, e3) :: (L + 1 + 1, e2) :: (L + 1, e1) :: (bz, listOf (List.take 2 yb).toArray 0) :: (bs, listOf yb.toArray yb.length) :: (pl, listOf yp.toArray yp.length) :: (le, listOf ve.toArray ce) :: (sr, o14) :: trTop w t dtt rlt tkt ept (lt' ++ (tl ++ own)))) (by walk_at "my_sub")
    refine wpAny_assign_Name (storeX_C F NS (c := L + 1 + 1 + 1 + 1 + 1) rfl (UpdF.head (fc (show @Ne Nat (L + 1 + 1 + 1 + 1 + 1 + 1) (L + 1 + 1 + 1 + 1 + 1) by omega) (fc (show @Ne Nat (L + 1 + 1 + 1 + 1) (L + 1 + 1 + 1 + 1 + 1) by omega) (fc (show @Ne Nat (L + 1 + 1 + 1) (L + 1 + 1 + 1 + 1 + 1) by omega) (fc (show @Ne Nat (L + 1 + 1) (L + 1 + 1 + 1 + 1 + 1) by omega) (fc (show @Ne Nat (L + 1) (L + 1 + 1 + 1 + 1 + 1) by omega) (fc obz.k5 (fc obs.k5 (fc opl.k5 (fc ole.k5 (fc osr.k5 (fun p hp => (List.mem_append.mp (show p ∈ trTop w t dtt rlt tkt ept lt' ++ (tl ++ own) from hp)).elim (fun hp => (olT p hp).k5) (fun hp => (List.mem_append.mp hp).elim (fun hp => (oTl p hp).k5) (fun hp => hown.2 p hp)))))))))))))) hd0 ?_)
    clear N NS F hvi
    intro h16 e5 F N x5
    try dsimp only at N
    walk_at "my_steps"
    refine assign_comp (cl := [(Str.ofString "tree", L + 1 + 1), (Str.ofString "node", L + 1 + 1 + 1 + 1 + 1)]) (by assumption) rfl rfl rfl (by decide) rfl (by decide) rfl rfl rfl ?_
    walk_at "my_steps"
    rename_i la _ F N lla
    refine comp_list (σ := Unit) (fun _ => []) (fun _ => []) (fun _ _ => True) () _ rfl ⟨_, (N _ (.head _)).1, rfl, _, rfl⟩ (N _ (.head _)).2.1 (by rw [sizeLine_eq]; simp)
      F N (fun _ h => h) (by walk_at "my_nil") (by walk_at "my_nil") rfl trivial ?_ ?_
    · clear F N lla
      rintro k2 v ⟨⟩ h tk2 own2 C oC m₂ E' hvi hi2 _ hyl hC hoC hx F N hsep
      dsimp only at hyl N hsep hi2 ⊢
      obtain ⟨nm, tnm, rfl, hnm, hnil⟩ : ∃ nm tnm, v = .str nm tnm ∧ nm ∈ shortNames ++ longNames ∧ axisL TR x nm = [] := by
        rcases k2 with _ | _ | _ | k2
        · simp only [List.getElem?_cons_zero, Option.some.injEq] at hvi; exact ⟨_, _, hvi.symm, by decide, g1⟩
        · simp only [List.getElem?_cons_zero, List.getElem?_cons_succ, Option.some.injEq] at hvi; exact ⟨_, _, hvi.symm, by decide, g2⟩
        · simp only [List.getElem?_cons_zero, List.getElem?_cons_succ, Option.some.injEq] at hvi; exact ⟨_, _, hvi.symm, by decide, g3⟩
        · exact absurd hi2 (by show ¬ (k2 + 1 + 1 + 1 < 3); omega)
      have N2 := News.sub N (l' := (C, oC) :: (la, listOf [Value.str (Str.ofString "child") tk, .str (Str.ofString "descendant") (tk + 1), .str (Str.ofString "following-sibling") (tk + 1 + 1)].toArray 0) :: (L + 1 + 1 + 1 + 1 + 1, e5) :: ((L + 1 + 1 + 1 + 1 + 1 + 1, c6) :: (L + 1 + 1 + 1 + 1, e4) :: (L + 1 + 1 + 1, e3) :: (L + 1 + 1, e2) :: (L + 1, e1) :: (bz, listOf (List.take 2 yb).toArray 0) :: (bs, listOf yb.toArray yb.length) :: (pl, listOf yp.toArray yp.length) :: (le, listOf ve.toArray ce) :: (sr, o14) :: trTop w t dtt rlt tkt ept (lt' ++ (tl ++ (own ++ own2))))) (by walk_at "my_sub")
      walk_at "my_steps"
      exact CompEnd.intro () (by assumption) (by assumption) (by walk_at "my_sub") rfl trivial (by walk_at "my_nil")
    · clear F N lla
      rintro ar ⟨⟩ h tk _ hyl F N hD -
      dsimp only at hyl N hD ⊢
      walk_at "my_steps"
      exact ForEnd.intro (⟨e5⟩ : StN) (by assumption) (by assumption) (by walk_at "my_sub") ⟨_, x5⟩ (fun q hq => by rw [List.mem_singleton.mp hq]; exact hsep (L + 1 + 1 + 1 + 1 + 1, o) (.head _)) (by walk_at "my_nil") (by walk_at "my_same")
  clear F N lbz
  rintro ⟨e5z⟩ u17 h17 tk17 ⟨v5, x5z⟩ F N hsep
  dsimp only at F N x5z hsep ⊢
  have N18 := News.sub N (l' := (L + 1 + 1 + 1 + 1 + 1 + 1, c6) :: (L + 1 + 1 + 1 + 1 + 1, e5z) :: (L + 1 + 1 + 1 + 1, e4) :: (L + 1 + 1 + 1, e3) :: (L + 1 + 1, e2) :: (L + 1, e1) :: (bs, listOf yb.toArray yb.length) :: (pl, listOf yp.toArray yp.length) :: (le, listOf ve.toArray ce) :: (sr, o14) :: trTop w t dtt rlt tkt ept (lt' ++ tl)) (by walk_at "my_sub")
  clear N hsep
  w_top off
  change Fr g L h17 _ at F
  change News g L h17 _ at N18
  walk_at "my_steps"
  refine wpAny_Assign_Name ?_
  refine eval_comp (cl := [(Str.ofString "source", L + 1), (Str.ofString "every", L + 1 + 1 + 1)]) F rfl (by decide) rfl (by decide) rfl ?_
  walk_at "my_steps"
  rename IsRange _ _ _ _ _ _ _ _ => R
  rename News _ _ _ _ => N
  rename Fr _ _ _ _ => F
  have hvez : 0 < ve.length := by rw [hvl]; exact List.length_pos_of_mem (walked_self W 0)
  refine comp_range (n := 2) (σ := StY) (fun c => [(sr, c.so)]) (fun c => c.ys) (fun k c => SrcO c.so ∧ NV c.ys c.ns ∧ (∀ x ∈ c.ns, x ∈ walked TR 0) ∧ c.ns.length = k) ⟨o14, [], []⟩ ((L + 1 + 1 + 1 + 1 + 1 + 1, c6) :: (L + 1 + 1 + 1 + 1 + 1, e5z) :: (L + 1 + 1 + 1 + 1, e4) :: (L + 1 + 1 + 1, e3) :: (L + 1 + 1, e2) :: (L + 1, e1) :: (bs, listOf yb.toArray yb.length) :: (pl, listOf yp.toArray yp.length) :: (le, listOf ve.toArray ce) :: trTop w t dtt rlt tkt ept (lt' ++ tl)) rfl R (by decide) (by decide) (by rw [sizeLine_eq]; decide)
    F N (by walk_at "my_sub") (fun q hq => by
      rw [List.mem_singleton.mp hq]
      exact fc osr.k6.symm (fc osr.k5.symm (fc osr.k4.symm (fc osr.k3.symm (fc osr.k2.symm (fc osr.k1.symm (fc bss (fc pls (fc les (fun p hp => (List.mem_append.mp (show p ∈ trTop w t dtt rlt tkt ept lt' ++ tl from hp)).elim (fun hp => b2 p hp) (fun hp => htn14 p hp))))))))))) rfl ⟨ho14, .nil, by simp, rfl⟩ ?_ ?_
  · clear F N R
    rintro k tr2 ⟨so2, ys, ns⟩ h tk own C oC m₂ E' hk2 ⟨hso2, hnv2, hin2, hlen2⟩ hyl hC hoC hx F N hsep
    dsimp only at F N hso2 hnv2 hin2 hlen2 hsep ⊢
    have hown := List.forall_mem_append.mp (hsep _ (.head _))
    have N2 := News.sub N (l' := (C, oC) :: (sr, so2) :: (L + 1 + 1 + 1 + 1 + 1 + 1, c6) :: (L + 1 + 1 + 1 + 1 + 1, e5z) :: (L + 1 + 1 + 1 + 1, e4) :: (L + 1 + 1 + 1, e3) :: (L + 1 + 1, e2) :: (L + 1, e1) :: (bs, listOf yb.toArray yb.length) :: (pl, listOf yp.toArray yp.length) :: (le, listOf ve.toArray ce) :: trTop w t dtt rlt tkt ept (lt' ++ (tl ++ own))) (by walk_at "my_sub")
    walk_at "my_steps"
    rename News _ _ _ _ => N
    rename Fr _ _ _ _ => F
    refine one_use (vs := ve) (c := ce) hvez (by omega) hso2 (by assumption) (by assumption) (by assumption) F N (by omega) (by omega) (by walk_at "my_sub1") (by walk_at "my_sub1") les ((L + 1 + 1 + 1 + 1 + 1 + 1, c6) :: (L + 1 + 1 + 1 + 1 + 1, e5z) :: (L + 1 + 1 + 1 + 1, e4) :: (L + 1 + 1 + 1, e3) :: (L + 1 + 1, e2) :: (L + 1, e1) :: (bs, listOf yb.toArray yb.length) :: (pl, listOf yp.toArray yp.length) :: (le, listOf ve.toArray ce) :: trTop w t dtt rlt tkt ept (lt' ++ (tl ++ own))) (by walk_at "my_sub") (fc osr.k6.symm (fc osr.k5.symm (fc osr.k4.symm (fc osr.k3.symm (fc osr.k2.symm (fc osr.k1.symm (fc bss (fc pls (fc les (fun p hp => (List.mem_append.mp (show p ∈ trTop w t dtt rlt tkt ept lt' ++ (tl ++ own) from hp)).elim (fun hp => b2 p hp) (fun hp => (List.mem_append.mp hp).elim (fun hp => htn14 p hp) (fun hp => hown.2 p hp)))))))))))) ?_ rfl rfl
    intro h18 tk18 v18 o18 F18 ho18 N19 hv18
    obtain ⟨n2, tn2, hn2, rfl⟩ := nv_mem nve hv18
    refine CompEnd.intro (⟨o18, ys ++ [.int n2 tn2], ns ++ [n2]⟩ : StY) F18 N19 (by walk_at "my_sub") rfl ⟨ho18, hnv2.snoc _ _, ?_, by simp [hlen2]⟩ (fun q hq => by
      rw [List.mem_singleton.mp hq]; exact hsep (sr, so2) (.head _))
    intro x hx
    rcases List.mem_append.mp hx with hx | hx
    · exact hin2 x hx
    · rw [List.mem_singleton.mp hx]; exact hn2
  · clear F N R
    rintro sm ⟨so2, ysm, nsm⟩ h18 tk18 ⟨hso2, nvs, hsin, hslen⟩ hyl F N hD -
    dsimp only at N hso2 nvs hsin hslen hD ⊢
    change News _ L h18 ((sm, listOf ysm.toArray ysm.length) :: _) at N
    have osm : OffC L sm := OffC.of (c1 := e1) (c2 := e2) (c3 := e3) (c4 := e4) (c5 := e5z) (c6 := c6) (hD) (by walk_at "my_sub")
    have N19 := News.sub N (l' := (L + 1 + 1 + 1 + 1 + 1 + 1, c6) :: (L + 1 + 1 + 1 + 1 + 1, e5z) :: (L + 1 + 1 + 1 + 1, e4) :: (L + 1 + 1 + 1, e3) :: (L + 1 + 1, e2) :: (L + 1, e1) :: (sm, listOf ysm.toArray ysm.length) :: (bs, listOf yb.toArray yb.length) :: (pl, listOf yp.toArray yp.length) :: (le, listOf ve.toArray ce) :: (sr, so2) :: trTop w t dtt rlt tkt ept (lt' ++ tl)) (by walk_at "my_sub")
    clear N
    have NS := News.sub N19 (l' := (L + 1 + 1 + 1 + 1 + 1 + 1, c6) :: (L + 1 + 1 + 1 + 1 + 1, e5z) :: (L + 1 + 1 + 1 + 1, e4) :: (L + 1 + 1 + 1, e3) :: (L + 1 + 1, e2) :: (L + 1, e1) :: (sm, listOf ysm.toArray ysm.length) :: (bs, listOf yb.toArray yb.length) :: (pl, listOf yp.toArray yp.length) :: (le, listOf ve.toArray ce) :: (sr, so2) :: trTop w t dtt rlt tkt ept (lt' ++ tl)) (by walk_at "my_sub")
    refine storeX_C F NS (c := L + 1 + 1 + 1 + 1 + 1 + 1) rfl (UpdF.head (fc (show @Ne Nat (L + 1 + 1 + 1 + 1 + 1) (L + 1 + 1 + 1 + 1 + 1 + 1) by omega) (fc (show @Ne Nat (L + 1 + 1 + 1 + 1) (L + 1 + 1 + 1 + 1 + 1 + 1) by omega) (fc (show @Ne Nat (L + 1 + 1 + 1) (L + 1 + 1 + 1 + 1 + 1 + 1) by omega) (fc (show @Ne Nat (L + 1 + 1) (L + 1 + 1 + 1 + 1 + 1 + 1) by omega) (fc (show @Ne Nat (L + 1) (L + 1 + 1 + 1 + 1 + 1 + 1) by omega) (fc osm.k6 (fc obs.k6 (fc opl.k6 (fc ole.k6 (fc osr.k6 (fun p hp => (List.mem_append.mp (show p ∈ trTop w t dtt rlt tkt ept lt' ++ tl from hp)).elim (fun hp => (olT p hp).k6) (fun hp => (oTl p hp).k6))))))))))))) d6 ?_

    have hstl : ∀ p ∈ trTop w t dtt rlt tkt ept (lt' ++ tl), @Ne Nat p.1 sm := fun p hp => hD p ((by walk_at "my_sub" : ∀ p ∈ trTop w t dtt rlt tkt ept (lt' ++ tl), p ∈ [(sr, so2)] ++ ((L + 1 + 1 + 1 + 1 + 1 + 1, c6) :: (L + 1 + 1 + 1 + 1 + 1, e5z) :: (L + 1 + 1 + 1 + 1, e4) :: (L + 1 + 1 + 1, e3) :: (L + 1 + 1, e2) :: (L + 1, e1) :: (bs, listOf yb.toArray yb.length) :: (pl, listOf yp.toArray yp.length) :: (le, listOf ve.toArray ce) :: trTop w t dtt rlt tkt ept (lt' ++ tl))) p hp)
    clear F N19 NS hD
    intro h20 e6 F N x6
    try dsimp only at N
    walk_at "my_steps"
    refine assign_compX (cl := [(Str.ofString "tree", L + 1 + 1), (Str.ofString "some", L + 1 + 1 + 1 + 1 + 1 + 1)]) F rfl rfl rfl ⟨fun _ _ => rfl, fun _ => rfl⟩ rfl (by decide) rfl rfl rfl ?_
    walk_at "my_steps"
    have hsl := nvs.len
    refine comp_listX (σ := StL) (fun _ => []) (fun c => c.ys) (fun k c => NV c.ys (((walked TR 0).take k).filter fun x => decide (∃ n ∈ nsm, x ∈ axisL TR n (Str.ofString "ancestor-or-self")))) ⟨[]⟩ _ rfl ⟨_, (N (le, listOf ve.toArray ce) (by walk_at "my_sub1")).1, rfl, _, rfl⟩ (N (le, listOf ve.toArray ce) (by walk_at "my_sub1")).2.1 (by rw [sizeLine_eq]; omega)
      F N (fun _ h => h) (by walk_at "my_nil") (by walk_at "my_nil") rfl .nil ?_ ?_
    · clear F N
      rintro k v ⟨ys⟩ h tk own C XA oX E' hvi hi2 h1 hyl hXm hXd F N hsep
      dsimp only at h1 hyl N hsep ⊢
      obtain ⟨x, tx, hx2, rfl⟩ := nve.get hvi
      have hxw : x ∈ walked TR 0 := List.mem_of_getElem? hx2
      have N2 := News.sub N (l' := (XA, oX) :: (L + 1 + 1 + 1 + 1 + 1 + 1, e6) :: (L + 1 + 1 + 1 + 1 + 1, e5z) :: (L + 1 + 1 + 1 + 1, e4) :: (L + 1 + 1 + 1, e3) :: (L + 1 + 1, e2) :: (L + 1, e1) :: (sm, listOf ysm.toArray ysm.length) :: (bs, listOf yb.toArray yb.length) :: (pl, listOf yp.toArray yp.length) :: (le, listOf ve.toArray ce) :: (sr, so2) :: trTop w t dtt rlt tkt ept (lt' ++ (tl ++ own))) (by walk_at "my_sub")
      clear N
      walk_at "my_steps"
      refine eval_comp (cl := [(Str.ofString "tree", L + 1 + 1), (Str.ofString "one", XA)]) F rfl (by decide) rfl (by decide) rfl ?_
      walk_at "my_steps"
      refine comp_list (σ := StL) (fun _ => []) (fun c => c.ys) (fun k c => NV c.ys ((nsm.take k).filter fun n => decide (x ∈ axisL TR n (Str.ofString "ancestor-or-self")))) ⟨[]⟩ _ rfl ⟨_, (N2 (sm, listOf ysm.toArray ysm.length) (by walk_at "my_sub1")).1, rfl, _, rfl⟩ (N2 (sm, listOf ysm.toArray ysm.length) (by walk_at "my_sub1")).2.1 (by rw [sizeLine_eq]; omega)
        F N2 (fun _ h => h) (by walk_at "my_nil") (by walk_at "my_nil") rfl .nil ?_ ?_
      · clear F N2 hXm hvi
        rintro k2 v ⟨ys2⟩ h tk own2 C oC m₂ E2 hvi hi3 h2 hyl2 hC hoC hx F N hsep2
        dsimp only at h2 hyl2 N hsep2 ⊢
        obtain ⟨n2, tn2, hn2, rfl⟩ := nvs.get hvi
        have hnw2 := hsin n2 (List.mem_of_getElem? hn2)
        have hnT2 := (walked_mem W hT0 n2 hnw2).2
        have N3 := News.sub N (l' := (C, oC) :: (XA, oX) :: (L + 1 + 1 + 1 + 1 + 1 + 1, e6) :: (L + 1 + 1 + 1 + 1 + 1, e5z) :: (L + 1 + 1 + 1 + 1, e4) :: (L + 1 + 1 + 1, e3) :: (L + 1 + 1, e2) :: (L + 1, e1) :: (sm, listOf ysm.toArray ysm.length) :: (bs, listOf yb.toArray yb.length) :: (pl, listOf yp.toArray yp.length) :: (le, listOf ve.toArray ce) :: (sr, so2) :: trTop w t dtt rlt tkt ept (lt' ++ (tl ++ (own ++ own2)))) (by walk_at "my_sub")
        clear N
        walk_at "my_steps"
        · rename_i hin3
          refine CompEnd.intro (⟨ys2 ++ [.int n2 tn2]⟩ : StL) (by assumption) (by assumption) (by walk_at "my_sub") rfl ?_ (by walk_at "my_nil")
          show NV (ys2 ++ [.int (n2 : Nat) tn2]) _
          rw [List.take_add_one, hn2, List.filter_append]
          simp only [Option.toList_some, List.filter_cons, List.filter_nil, hin3, decide_true, if_true]
          exact h2.app .one
        · rename_i hin3
          refine CompEnd.intro (⟨ys2⟩ : StL) (by assumption) (by assumption) (by walk_at "my_sub") rfl ?_ (by walk_at "my_nil")
          show NV ys2 _
          rw [List.take_add_one, hn2, List.filter_append]
          simp only [Option.toList_some, List.filter_cons, List.filter_nil, hin3, decide_false, Bool.false_eq_true, if_false, List.append_nil]
          exact h2
      · clear F N2
        rintro D2 ⟨ys2⟩ h tk h2 hyl2 F N hD2 -
        dsimp only at h2 hyl2 N hD2 ⊢
        rw [hsl, List.take_length] at h2
        have hex : (nsm.filter fun n => decide (x ∈ axisL TR n (Str.ofString "ancestor-or-self"))) = [] ↔ ¬ ∃ n ∈ nsm, x ∈ axisL TR n (Str.ofString "ancestor-or-self") := by
          rw [List.filter_eq_nil_iff]
          simp
        walk_at "my_steps"
        · rename_i hnil
          have hno := hex.mp (of_decide_eq_true hnil)
          refine CompEnd.intro (⟨ys⟩ : StL) (by assumption) (by assumption) (by walk_at "my_sub") rfl ?_ (by walk_at "my_nil")
          show NV ys _
          rw [List.take_add_one, hx2, List.filter_append]
          simp only [Option.toList_some, List.filter_cons, List.filter_nil, hno, decide_false, Bool.false_eq_true, if_false, List.append_nil]
          exact h1
        · rename_i hnil
          have hyes : ∃ n ∈ nsm, x ∈ axisL TR n (Str.ofString "ancestor-or-self") := Classical.byContradiction fun q => of_decide_eq_false hnil (hex.mpr q)
          refine CompEnd.intro (⟨ys ++ [.int x tx]⟩ : StL) (by assumption) (by assumption) (by walk_at "my_sub") rfl ?_ (by walk_at "my_nil")
          show NV (ys ++ [.int (x : Nat) tx]) _
          rw [List.take_add_one, hx2, List.filter_append]
          simp only [Option.toList_some, List.filter_cons, List.filter_nil, hyes, decide_true, if_true]
          exact h1.app .one
    · clear F N
      rintro du ⟨yd⟩ h21 tk21 nvd hyl F N hD -
      dsimp only at nvd hyl N hD ⊢
      rw [hvl, List.take_length] at nvd
      walk_at "my_steps"
      rename News _ _ _ _ => N
      rename Fr _ _ _ _ => F
      rename_i ln _ lln
      refine rw_use (led_spec w t sm ln [Str.ofString "ancestor-or-self"] TR W 0 nsm hT0 hp0 hsin (by omega) (by decide) (by decide) (by decide)) (by assumption) (by assumption) (by assumption) F N (by walk_at "my_room") (by walk_at "my_room") tl ((ln, listOf [Value.str (Str.ofString "ancestor-or-self") tk21].toArray 0) :: (du, listOf yd.toArray yd.length) :: (sm, listOf ysm.toArray ysm.length) :: trTop w t dtt rlt tkt ept lt') (by walk_at "my_sub") (by walk_at "my_sub") ?_
        (fun g' st1 h1' h2' _ => ⟨htl.at (fun p hp => h2' p (.tail _ (.tail _ (.tail _ hp)))), ⟨ysm, ⟨_, h2' (sm, listOf ysm.toArray ysm.length) (.tail _ (.tail _ (.head _))), rfl, _, rfl⟩, nvs⟩, ⟨_, ⟨_, h2' _ (.head _), rfl, _, rfl⟩, by simp [SV]⟩, codeHd.keeps (fun b o e => st1 b o e), tl, htl14, h1'⟩) ?_ rfl rfl
      · intro p hp q hq
        have hq1 : q ∈ [] ++ ((L + 1 + 1 + 1 + 1 + 1 + 1, e6) :: (L + 1 + 1 + 1 + 1 + 1, e5z) :: (L + 1 + 1 + 1 + 1, e4) :: (L + 1 + 1 + 1, e3) :: (L + 1 + 1, e2) :: (L + 1, e1) :: (sm, listOf ysm.toArray ysm.length) :: (bs, listOf yb.toArray yb.length) :: (pl, listOf yp.toArray yp.length) :: (le, listOf ve.toArray ce) :: (sr, so2) :: trTop w t dtt rlt tkt ept (lt' ++ tl)) := (by walk_at "my_sub" : ∀ p ∈ tl, p ∈ [] ++ ((L + 1 + 1 + 1 + 1 + 1 + 1, e6) :: (L + 1 + 1 + 1 + 1 + 1, e5z) :: (L + 1 + 1 + 1 + 1, e4) :: (L + 1 + 1 + 1, e3) :: (L + 1 + 1, e2) :: (L + 1, e1) :: (sm, listOf ysm.toArray ysm.length) :: (bs, listOf yb.toArray yb.length) :: (pl, listOf yp.toArray yp.length) :: (le, listOf ve.toArray ce) :: (sr, so2) :: trTop w t dtt rlt tkt ept (lt' ++ tl))) q hq
        rcases List.mem_cons.mp hp with rfl | hp
        · exact Nat.ne_of_gt (allLt_mem lln.2 q hq1)
        · rcases List.mem_cons.mp hp with rfl | hp
          · exact (hD q hq1).symm
          · rcases List.mem_cons.mp hp with rfl | hp
            · exact (hstl q (List.mem_append_right _ hq : q ∈ trTop w t dtt rlt tkt ept lt' ++ tl)).symm
            · exact hap q (.tail _ hq) p (by simp only [List.mem_cons] at hp ⊢; simp only [hp, or_true])
      rintro g22 h22 tk22 r22 F22 N22 st22 hl22 kp22 ⟨⟨tl2, htl2, hh2⟩, la, va, ca, rfl, y2, y3, y4, y5⟩
      have Na := hl22 [(la, listOf va.toArray ca)] (fun q hq => by rw [List.mem_singleton.mp hq]; exact ⟨y2, y4⟩)
      have N23 := News.sub (news_two (news_two Na (hl22 tl2 hh2)) N22) (l' := (la, listOf va.toArray ca) :: (du, listOf yd.toArray yd.length) :: tl2) (by walk_at "my_sub")
      clear N F Na N22 hh2 hl22 kp22
      walk_at "my_steps"
      have hend : stepsL TR 0 nsm [Str.ofString "ancestor-or-self"] = (walked TR 0).filter fun x => decide (∃ n ∈ nsm, x ∈ axisL TR n (Str.ofString "ancestor-or-self")) := rfl
      rw [decide_eq_true hend]
      refine hret _ _ F22.keep ⟨?_, trivial⟩
      rcases htl2 with _ | ⟨hod, hov, hcne⟩
      · exact GrownAt.of N23 (.tail _ (.tail _ (.head _)))
      · exact GrownAt.of N23 (.tail _ (.tail _ (.head _))))
end
end Mine
set_option maxRecDepth 100000 in
set_option maxHeartbeats 8000000 in
theorem PySem.Challenge.cw_nu0071_01_holds : PySem.Challenge.rw_nu0071_01.Holds := by
  exact Mine.law_walk
