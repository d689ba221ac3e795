import PyProof.Rows.All
import Wide.All
import OpenK.AllK
import Wide.FinOn
import PySem.Challenge.RW_rr0032_01
set_option Elab.async false
set_option autoImplicit false
set_option linter.all false
set_option bootstrap.genMatcherCode false
set_option compiler.extract_closed false
set_option genSizeOf false
set_option genInjectivity false
set_option tactic.hygienic false
set_option maxRecDepth 100000
set_option maxHeartbeats 8000000
local macro_rules | `(tactic| tb_rel) => `(tactic| first | lia | omega)
local macro_rules | `(tactic| top_raise) => `(tactic| first | rfl | assumption | (simp only [decide_eq_true_eq, Bool.not_eq_true', Bool.not_eq_false', decide_eq_false_iff_not]; first | assumption | tb_rel))
section
open PySem PySem.W PySem.Calls PyProof.Rows
namespace Mine
inductive AV where
 | none
 | bool (b : Bool)
 | int (i : Int)
 | str (s : List Nat)
 | tup (vs : List AV)
 | loc (n : Nat)
 deriving Inhabited
inductive AO where
 | list (vs : List AV)
 | dictS (es : List (List Nat × AV))
 | dictI (es : List (Int × AV))
 | dictP (es : List ((Int × Int) × AV))
 | inst (c : Nat) (fs : List (Nat × AV))
 | exc (raw : Bool) (c : Nat) (fs : List (Nat × AV))
 | cell (v : Option AV)
 deriving Inhabited
noncomputable abbrev Store := List AO
noncomputable abbrev Frame := List (Option AV)
noncomputable abbrev Adr := List (Addr × Addr)
noncomputable abbrev tupObj (vs : Array Value) (k : Nat) : Obj := { cls := .type "tuple", data := .seq vs k }
mutual
inductive VIn (ad : Adr) (h : Heap) : Value → AV → Prop
 | none : VIn ad h Value.none AV.none
 | bool (b : Bool) : VIn ad h (Value.bool b) (AV.bool b)
 | int (i : Int) (t : Tok) : VIn ad h (Value.int i t) (AV.int i)
 | str (s : List Nat) (t : Tok) : VIn ad h (Value.str ⟨s.toArray⟩ t) (AV.str s)
 | tup {a : Addr} {vs : List Value} {n : Nat} {avs : List AV} : h.get? a = some (tupObj vs.toArray n) → VAll ad h vs avs → VIn ad h (Value.ref a) (AV.tup avs)
 | loc {n : Nat} {p : Addr × Addr} : ad[n]? = some p → VIn ad h (Value.ref p.1) (AV.loc n)
inductive VAll (ad : Adr) (h : Heap) : List Value → List AV → Prop
 | nil : VAll ad h [] []
 | cons {v : Value} {vs : List Value} {a : AV} {as : List AV} : VIn ad h v a → VAll ad h vs as → VAll ad h (v :: vs) (a :: as)
end
mutual
theorem VIn.mono {ad ad' : Adr} {h h' : Heap} (h1 : ∀ (n : Nat) p, ad[n]? = some p → ad'[n]? = some p) (h2 : ∀ a vs k, h.get? a = some (tupObj vs k) → h'.get? a = some (tupObj vs k)) :
 ∀ {v : Value} {a : AV}, VIn ad h v a → VIn ad' h' v a
 | _, _, .none => .none
 | _, _, .bool b => .bool b
 | _, _, .int i t => .int i t
 | _, _, .str s t => .str s t
 | _, _, .tup e r => .tup (h2 _ _ _ e) (VAll.mono h1 h2 r)
 | _, _, .loc e => .loc (h1 _ _ e)
theorem VAll.mono {ad ad' : Adr} {h h' : Heap} (h1 : ∀ (n : Nat) p, ad[n]? = some p → ad'[n]? = some p) (h2 : ∀ a vs k, h.get? a = some (tupObj vs k) → h'.get? a = some (tupObj vs k)) :
 ∀ {vs : List Value} {as : List AV}, VAll ad h vs as → VAll ad' h' vs as
 | _, _, .nil => .nil
 | _, _, .cons x r => .cons (VIn.mono h1 h2 x) (VAll.mono h1 h2 r)
end
theorem VAll.length {ad : Adr} {h : Heap} : ∀ {vs : List Value} {as : List AV}, VAll ad h vs as → vs.length = as.length
 | _, _, .nil => rfl
 | _, _, .cons _ r => by rw [List.length_cons, List.length_cons, r.length]
theorem VAll.append {ad : Adr} {h : Heap} {ws : List Value} {bs : List AV} : ∀ {vs : List Value} {as : List AV}, VAll ad h vs as → VAll ad h ws bs → VAll ad h (vs ++ ws) (as ++ bs)
 | _, _, .nil, k => k
 | _, _, .cons x r, k => .cons x (r.append k)
theorem VAll.get {ad : Adr} {h : Heap} : ∀ {vs : List Value} {as : List AV}, VAll ad h vs as → ∀ {k : Nat} {a : AV}, as[k]? = some a → ∃ v, vs[k]? = some v ∧ VIn ad h v a
 | _, _, .nil, k, _, e => by simp at e
 | _, _, .cons x r, 0, _, e => by simp at e; subst e; exact ⟨_, rfl, x⟩
 | _, _, .cons x r, k + 1, _, e => by simp at e; obtain ⟨v, h1, h2⟩ := r.get e; exact ⟨v, by simpa using h1, h2⟩
theorem VAll.set {ad : Adr} {h : Heap} {v : Value} {a : AV} (hx : VIn ad h v a) : ∀ {vs : List Value} {as : List AV} {k : Nat}, VAll ad h vs as → VAll ad h (vs.set k v) (as.set k a)
 | _, _, _, .nil => .nil
 | _, _, 0, .cons _ r => .cons hx r
 | _, _, k + 1, .cons x r => .cons x (r.set hx)
theorem VAll.take {ad : Adr} {h : Heap} : ∀ {vs : List Value} {as : List AV} (k : Nat), VAll ad h vs as → VAll ad h (vs.take k) (as.take k)
 | _, _, 0, _ => by simp; exact .nil
 | _, _, _ + 1, .nil => by simp; exact .nil
 | _, _, k + 1, .cons x r => .cons x (r.take k)
theorem VAll.drop {ad : Adr} {h : Heap} : ∀ {vs : List Value} {as : List AV} (k : Nat), VAll ad h vs as → VAll ad h (vs.drop k) (as.drop k)
 | _, _, 0, r => r
 | _, _, _ + 1, .nil => .nil
 | _, _, k + 1, .cons _ r => r.drop k
theorem VAll.reverse {ad : Adr} {h : Heap} : ∀ {vs : List Value} {as : List AV}, VAll ad h vs as → VAll ad h vs.reverse as.reverse
 | _, _, .nil => .nil
 | _, _, .cons x r => by rw [List.reverse_cons, List.reverse_cons]; exact r.reverse.append (.cons x .nil)
theorem VAll.snoc {ad : Adr} {h : Heap} {v : Value} {a : AV} {vs : List Value} {as : List AV} (r : VAll ad h vs as) (x : VIn ad h v a) : VAll ad h (vs ++ [v]) (as ++ [a]) := r.append (.cons x .nil)
noncomputable def attrName : Nat → Str := fun n => (["texts", "atom_numbers", "functors", "functor_numbers", "ball", "symbols", "max_heap", "heap", "stack", "trail", "hb", "bb",
 "code", "occurs", "max_bits", "store", "x", "p", "cp", "e", "b", "b0", "mode", "s", "guard", "roots", "bags", "collect_wanted"] : List Str).getD n ""
theorem attrName_inj : ∀ i, i < 28 → ∀ j, j < 28 → attrName i = attrName j → i = j := by decide +kernel
noncomputable def fld (c k : Nat) : Bool := match c with
 | 0 => decide (k < 4)
 | 1 => k == 4
 | 2 => decide (5 ≤ k) && decide (k < 12)
 | 3 => k == 5 || k == 6 || (decide (12 ≤ k) && decide (k < 28))
 | _ => false
theorem fld_lt {c k : Nat} (h : fld c k = true) : k < 28 := by
 unfold fld at h
 split at h <;> simp at h <;> tb_rel
structure ClsOk (K : Frag) (C : Addr) : Prop where
 dict : hasDictIn K C = true
 get : ∀ name, plainGet K C name = true
 over : plainOver K C = true
 setA : findIn K (.ref C) "__setattr__" = some (some (.builtin "object.__setattr__"))
structure FldOk (K : Frag) (C : Addr) (name : Str) : Prop where
 find : ∃ attr, findIn K (.ref C) name = some attr ∧ noGet K attr = true
 taker : takerIn K C name = some none
structure Ctx where
 prog : Program
 w : World
 h₀ : Heap
 K : Frag
 q : Program
 loose : List Str
 mg : Str → Option Value
 mb : Str → Option Value
 cls : Nat → Addr
 lim : Around → Addr → List (Str × Addr) → Prop
 pin : List (Nat × Addr)
 X : K.In h₀
 T : TopRead q loose mg mb h₀
 sys : (h₀.get? sysModules).isSome = true
 exc : ktsIn K (cls 1) "BaseException" = true
 clsOk : ∀ c, c = 0 ∨ c = 2 ∨ c = 3 → ClsOk K (cls c)
 fldOk : ∀ c k, fld c k = true → FldOk K (cls c) (attrName k)
inductive FAll (c : Nat) (ad : Adr) (h : Heap) : List DictEntry → List (Nat × AV) → Prop
 | nil : FAll c ad h [] []
 | cons {e : DictEntry} {es : List DictEntry} {k : Nat} {t : Tok} {a : AV} {fs : List (Nat × AV)} : e.key = .str (attrName k) t → fld c k = true → VIn ad h e.val a → FAll c ad h es fs → FAll c ad h (e :: es) ((k, a) :: fs)
inductive KVAll {κ K : Type} (enc : κ → K) (ad : Adr) (h : Heap) : List (K × Value) → List (κ × AV) → Prop
 | nil : KVAll enc ad h [] []
 | cons {k : κ} {v : Value} {a : AV} {kvs : List (K × Value)} {es : List (κ × AV)} : VIn ad h v a → KVAll enc ad h kvs es → KVAll enc ad h ((enc k, v) :: kvs) ((k, a) :: es)
inductive KPAll (ad : Adr) (h : Heap) : List (List Int × Addr × Value) → List ((Int × Int) × AV) → Prop
 | nil : KPAll ad h [] []
 | cons {i j : Int} {b : Addr} {v : Value} {a : AV} {kvs : List (List Int × Addr × Value)} {es : List ((Int × Int) × AV)} : VIn ad h v a → KPAll ad h kvs es → KPAll ad h (([i, j], b, v) :: kvs) (((i, j), a) :: es)
noncomputable def encS (cs : List Nat) : Str := ⟨cs.toArray⟩
theorem encS_inj {x y : List Nat} (h : encS x = encS y) : x = y := by unfold encS at h; injection h with h; simpa using h
theorem FAll.mono {c : Nat} {ad ad' : Adr} {h h' : Heap} (h1 : ∀ (n : Nat) p, ad[n]? = some p → ad'[n]? = some p) (h2 : ∀ a vs k, h.get? a = some (tupObj vs k) → h'.get? a = some (tupObj vs k)) {es fs} (x : FAll c ad h es fs) : FAll c ad' h' es fs := by
 induction x with
 | nil => exact .nil
 | cons e l v _ ih => exact .cons e l (v.mono h1 h2) ih
theorem KVAll.mono {κ K : Type} {enc : κ → K} {ad ad' : Adr} {h h' : Heap} (h1 : ∀ (n : Nat) p, ad[n]? = some p → ad'[n]? = some p) (h2 : ∀ a vs k, h.get? a = some (tupObj vs k) → h'.get? a = some (tupObj vs k)) {es fs} (x : KVAll enc ad h es fs) : KVAll enc ad' h' es fs := by
 induction x with
 | nil => exact .nil
 | cons v _ ih => exact .cons (v.mono h1 h2) ih
theorem KPAll.mono {ad ad' : Adr} {h h' : Heap} (h1 : ∀ (n : Nat) p, ad[n]? = some p → ad'[n]? = some p) (h2 : ∀ a vs k, h.get? a = some (tupObj vs k) → h'.get? a = some (tupObj vs k)) {es fs} (x : KPAll ad h es fs) : KPAll ad' h' es fs := by
 induction x with
 | nil => exact .nil
 | cons v _ ih => exact .cons (v.mono h1 h2) ih
theorem dictOf_at {prog : Program} {w : World} {K : Type} [DecidableEq K] {knd : KeyKind prog w K} {h h' : Heap} {a : Addr} {kvs : List (K × Value)} (x : h.DictOf knd a kvs) (k : ∀ o, h.get? a = some o → h'.get? a = some o) : h'.DictOf knd a kvs :=
 let ⟨o, es, ep, e, r⟩ := x; ⟨o, es, ep, k o e, r⟩
theorem dictOfH_at {prog : Program} {w : World} {h h' : Heap} {a : Addr} {xs : List (List Int × Addr × Value)} (x : h.DictOfH (tupleKind (intKind prog w)) a xs) (k : ∀ o, h.get? a = some o → h'.get? a = some o)
 (tk : ∀ x ∈ xs, ∃ vs n, h.get? x.2.1 = some (tupObj vs n)) (h2 : ∀ a vs k, h.get? a = some (tupObj vs k) → h'.get? a = some (tupObj vs k)) : h'.DictOfH (tupleKind (intKind prog w)) a xs := by
 obtain ⟨o, es, ep, e, r1, r2, r3, r4, r5⟩ := x
 refine ⟨o, es, ep, k o e, r1, r2, r3, fun x hx => ?_, r5⟩
 obtain ⟨o', items, n, g1, g2, g3, g4⟩ := r4 x hx
 obtain ⟨vs, m, g⟩ := tk x hx
 rw [g] at g1; cases g1
 exact ⟨_, items, n, h2 _ _ _ g, g2, g3, g4⟩
noncomputable def OIn (C : Ctx) (ad : Adr) (h : Heap) (p : Addr × Addr) : AO → Prop
 | .list avs => p.2 = p.1 ∧ ∃ vs n, h.get? p.1 = some (listOf (vs : List Value).toArray n) ∧ VAll ad h vs avs
 | .dictS es => p.2 = p.1 ∧ ∃ kvs, h.DictOf (strKind C.prog C.w) p.1 kvs ∧ KVAll encS ad h kvs es
 | .dictI es => p.2 = p.1 ∧ ∃ kvs, h.DictOf (intKind C.prog C.w) p.1 kvs ∧ KVAll id ad h kvs es
 | .dictP es => p.2 = p.1 ∧ ∃ xs, h.DictOfH (tupleKind (intKind C.prog C.w)) p.1 xs ∧ KPAll ad h xs es ∧ ∀ x ∈ xs, ∃ vs n, h.get? x.2.1 = some (tupObj vs n)
 | .inst c fs => h.get? p.1 = some (instObj (C.cls c) p.2) ∧ ∃ des n, h.get? p.2 = some (dictOf des n) ∧ FAll c ad h des fs
 | .exc raw c fs => (∃ vs, h.get? p.1 = some { cls := .ref (C.cls c), dict := some p.2, data := .fields vs } ∧ (raw = true → ∃ t, vs = #[.ref t, .none, .none, .none, .bool false, .none])) ∧ ∃ des n, h.get? p.2 = some (dictOf des n) ∧ FAll c ad h des fs
 | .cell v => p.2 = p.1 ∧ ∃ o w, h.get? p.1 = some o ∧ o.data = .cell w ∧ (match v with | none => w = none | some a => ∃ u, w = some u ∧ VIn ad h u a)
theorem OIn.mono {C : Ctx} {ad ad' : Adr} {h h' : Heap} {p : Addr × Addr} {o : AO} (h1 : ∀ (n : Nat) p, ad[n]? = some p → ad'[n]? = some p) (h2 : ∀ a vs k, h.get? a = some (tupObj vs k) → h'.get? a = some (tupObj vs k))
 (h3 : ∀ o, h.get? p.1 = some o → h'.get? p.1 = some o) (h4 : ∀ o, h.get? p.2 = some o → h'.get? p.2 = some o) (x : OIn C ad h p o) : OIn C ad' h' p o := by
 cases o with
 | list avs => obtain ⟨e, vs, n, g, r⟩ := x; exact ⟨e, vs, n, h3 _ g, r.mono h1 h2⟩
 | dictS es => obtain ⟨e, kvs, g, r⟩ := x; exact ⟨e, kvs, dictOf_at g h3, r.mono h1 h2⟩
 | dictI es => obtain ⟨e, kvs, g, r⟩ := x; exact ⟨e, kvs, dictOf_at g h3, r.mono h1 h2⟩
 | dictP es => obtain ⟨e, kvs, g, r, tk⟩ := x; exact ⟨e, kvs, dictOfH_at g h3 tk h2, r.mono h1 h2, fun x hx => let ⟨vs, n, q⟩ := tk x hx; ⟨vs, n, h2 _ _ _ q⟩⟩
 | inst c fs => obtain ⟨e, vs, n, g, r⟩ := x; exact ⟨h3 _ e, vs, n, h4 _ g, r.mono h1 h2⟩
 | exc raw c fs => obtain ⟨⟨us, e, ef⟩, vs, n, g, r⟩ := x; exact ⟨⟨us, h3 _ e, ef⟩, vs, n, h4 _ g, r.mono h1 h2⟩
 | cell v =>
  obtain ⟨e, o, w, g, d, r⟩ := x
  refine ⟨e, o, w, h3 _ g, d, ?_⟩
  cases v with
  | none => exact r
  | some a => obtain ⟨u, q, i⟩ := r; exact ⟨u, q, i.mono h1 h2⟩
theorem OIn.objs {C : Ctx} {ad : Adr} {h : Heap} {p : Addr × Addr} {o : AO} (x : OIn C ad h p o) : ∃ o1 o2, h.get? p.1 = some o1 ∧ h.get? p.2 = some o2 ∧ (∀ vs k, o1 ≠ tupObj vs k) ∧ ∀ vs k, o2 ≠ tupObj vs k := by
 cases o with
 | list avs => obtain ⟨e, vs, n, g, r⟩ := x; rw [e]; exact ⟨_, _, g, g, by simp, by simp⟩
 | dictS avs => obtain ⟨e, kvs, ⟨o, es, ep, g, _, r, _⟩, _⟩ := x; rw [e]; exact ⟨_, _, g, g, (fun _ _ q => by rw [q] at r; cases r), fun _ _ q => by rw [q] at r; cases r⟩
 | dictI avs => obtain ⟨e, kvs, ⟨o, es, ep, g, _, r, _⟩, _⟩ := x; rw [e]; exact ⟨_, _, g, g, (fun _ _ q => by rw [q] at r; cases r), fun _ _ q => by rw [q] at r; cases r⟩
 | dictP avs => obtain ⟨e, kvs, ⟨o, es, ep, g, _, r, _⟩, _⟩ := x; rw [e]; exact ⟨_, _, g, g, (fun _ _ q => by rw [q] at r; cases r), fun _ _ q => by rw [q] at r; cases r⟩
 | inst c fs => obtain ⟨e, vs, n, g, r⟩ := x; exact ⟨_, _, e, g, by simp, by simp⟩
 | exc raw c fs => obtain ⟨⟨us, e, _⟩, vs, n, g, r⟩ := x; exact ⟨_, _, e, g, by simp, by simp⟩
 | cell v => obtain ⟨e, o, w, g, d, _⟩ := x; rw [e]; exact ⟨_, _, g, g, (fun _ _ q => by rw [q] at d; cases d), fun _ _ q => by rw [q] at d; cases d⟩
noncomputable def Touch (ad : Adr) (b : Addr) : Prop := ∃ p ∈ ad, b = p.1 ∨ b = p.2
noncomputable def Apart (p q : Addr × Addr) : Prop := p.1 ≠ q.1 ∧ p.1 ≠ q.2 ∧ p.2 ≠ q.1 ∧ p.2 ≠ q.2
structure SIn (C : Ctx) (ad : Adr) (σ : Store) (h : Heap) : Prop where
 len : ad.length = σ.length
 obj : ∀ (i : Nat) p o, ad[i]? = some p → σ[i]? = some o → OIn C ad h p o
 apart : ad.Pairwise Apart
 new : ∀ p ∈ ad, C.h₀.get? p.1 = none ∧ C.h₀.get? p.2 = none
 keep : ∀ b o, C.h₀.get? b = some o → h.get? b = some o
 pin : ∀ q ∈ C.pin, ad[q.1]? = some (q.2, q.2)
theorem Apart.symm {p q : Addr × Addr} (x : Apart p q) : Apart q p := ⟨x.1.symm, x.2.2.1.symm, x.2.1.symm, x.2.2.2.symm⟩
theorem apart_ne {ad : Adr} (x : ad.Pairwise Apart) {i j : Nat} {p q : Addr × Addr} (hi : ad[i]? = some p) (hj : ad[j]? = some q) (hij : i ≠ j) : Apart p q := by
 rw [List.pairwise_iff_getElem] at x
 obtain ⟨li, rfl⟩ := List.getElem?_eq_some_iff.mp hi
 obtain ⟨lj, rfl⟩ := List.getElem?_eq_some_iff.mp hj
 rcases Nat.lt_or_gt_of_ne hij with h | h
 · exact x i j li lj h
 · exact (x j i lj li h).symm
theorem OIn.notTuple {C : Ctx} {ad : Adr} {h : Heap} {p : Addr × Addr} {o : AO} (x : OIn C ad h p o) {vs : Array Value} {k : Nat} : h.get? p.1 ≠ some (tupObj vs k) ∧ h.get? p.2 ≠ some (tupObj vs k) := by
 obtain ⟨o1, o2, e1, e2, n1, n2⟩ := x.objs
 rw [e1, e2]
 exact ⟨fun q => n1 _ _ (Option.some.inj q), fun q => n2 _ _ (Option.some.inj q)⟩
theorem SIn.notTuple {C : Ctx} {ad : Adr} {σ : Store} {h : Heap} (S : SIn C ad σ h) {b : Addr} {vs : Array Value} {k : Nat} (e : h.get? b = some (tupObj vs k)) : ¬ Touch ad b := by
 rintro ⟨p, hp, hb⟩
 obtain ⟨i, li, rfl⟩ := List.getElem_of_mem hp
 have hi : ad[i]? = some ad[i] := List.getElem?_eq_getElem li
 have li' : i < List.length σ := S.len ▸ li
 have ho : σ[i]? = some σ[i] := List.getElem?_eq_getElem li'
 have x := S.obj i _ _ hi ho
 rcases hb with rfl | rfl
 · exact (x.notTuple).1 e
 · exact (x.notTuple).2 e
structure Ext (ad : Adr) (ex : List Addr) (h : Heap) (ad' : Adr) (h' : Heap) : Prop where
 more : ∃ l, ad' = ad ++ l ∧ ∀ p ∈ l, h.get? p.1 = none ∧ h.get? p.2 = none
 keep : ∀ b o, h.get? b = some o → ¬ Touch ad b → b ∉ ex → h'.get? b = some o
 tups : ∀ b vs k, h.get? b = some (tupObj vs k) → h'.get? b = some (tupObj vs k)
 grow : ∀ b o, h.get? b = some o → ∃ o', h'.get? b = some o'
theorem Ext.idx {ad ad' : Adr} {ex : List Addr} {h h' : Heap} (x : Ext ad ex h ad' h') : ∀ (n : Nat) p, ad[n]? = some p → ad'[n]? = some p := by
 obtain ⟨l, rfl, _⟩ := x.more
 intro n p e
 rw [List.getElem?_append_left (List.getElem?_eq_some_iff.mp e).1]; exact e
theorem Ext.val {ad ad' : Adr} {ex : List Addr} {h h' : Heap} (x : Ext ad ex h ad' h') {v : Value} {a : AV} (k : VIn ad h v a) : VIn ad' h' v a := k.mono x.idx x.tups
theorem Ext.vals {ad ad' : Adr} {ex : List Addr} {h h' : Heap} (x : Ext ad ex h ad' h') {v : List Value} {a : List AV} (k : VAll ad h v a) : VAll ad' h' v a := k.mono x.idx x.tups
theorem Ext.refl {ad : Adr} {ex : List Addr} {h : Heap} : Ext ad ex h ad h := ⟨⟨[], (List.append_nil _).symm, fun _ hp => nomatch hp⟩, fun _ _ e _ _ => e, fun _ _ _ e => e, fun _ o e => ⟨o, e⟩⟩
theorem none_of_size {h : Heap} {b : Addr} (x : h.objs.size ≤ b) : h.get? b = none := by
 cases e : h.get? b with
 | none => rfl
 | some o => exact absurd (Heap.lt_size e) (Nat.not_lt.mpr x)
theorem not_touch_new {ad l : Adr} {h : Heap} {b : Addr} {o : Obj} (hl : ∀ p ∈ l, h.get? p.1 = none ∧ h.get? p.2 = none) (e : h.get? b = some o) (ht : ¬ Touch ad b) : ¬ Touch (ad ++ l) b := by
 rintro ⟨p, hp, hb⟩
 rcases List.mem_append.mp hp with hp | hp
 · exact ht ⟨p, hp, hb⟩
 · have q := hl p hp
   rcases hb with rfl | rfl
   · rw [q.1] at e; cases e
   · rw [q.2] at e; cases e
theorem Ext.none {ad ad' : Adr} {ex : List Addr} {h h' : Heap} (x : Ext ad ex h ad' h') {b : Addr} (e : h'.get? b = Option.none) : h.get? b = Option.none := by
 cases q : h.get? b with
 | none => rfl
 | some o => obtain ⟨o', z⟩ := x.grow b o q; rw [z] at e; cases e
theorem Ext.trans {ad ad' ad'' : Adr} {ex : List Addr} {h h' h'' : Heap} (x : Ext ad ex h ad' h') (y : Ext ad' ex h' ad'' h'') : Ext ad ex h ad'' h'' := by
 obtain ⟨l, rfl, hl⟩ := x.more
 obtain ⟨l', rfl, hl'⟩ := y.more
 refine ⟨⟨l ++ l', by rw [List.append_assoc], fun p hp => ?_⟩, fun b o e ht hb => ?_, fun b vs k e => y.tups b vs k (x.tups b vs k e), fun b o e => ?_⟩
 · rcases List.mem_append.mp hp with hp | hp
   · exact hl p hp
   · exact ⟨x.none (hl' p hp).1, x.none (hl' p hp).2⟩
 · exact y.keep b o (x.keep b o e ht hb) (not_touch_new hl e ht) hb
 · obtain ⟨o', z⟩ := x.grow b o e
   exact y.grow b o' z
theorem Ext.keeps {ad : Adr} {ex : List Addr} {h h' : Heap} (k : ∀ b o, h.get? b = some o → h'.get? b = some o)   : Ext ad ex h ad h' :=
 ⟨⟨[], (List.append_nil _).symm, fun _ hp => nomatch hp⟩, fun b o e _ _ => k b o e, fun b vs n e => k b _ e, fun b o e => ⟨o, k b o e⟩⟩
structure RF (C : Ctx) (nm : List Str) (L : Addr) (h : Heap) (ad : Adr) (fr : Frame) (σ : Store) : Prop where
 st : SIn C ad σ h
 fr : ∃ m, Fr C.h₀ L h m ∧ ∀ (i : Nat) av, fr[i]? = some (some av) → ∃ x v, nm[i]? = some x ∧ m x = some v ∧ VIn ad h v av
 off : ¬ Touch ad L
theorem SIn.keeps {C : Ctx} {ad : Adr} {σ : Store} {h h' : Heap} (S : SIn C ad σ h) (k : ∀ b o, h.get? b = some o → h'.get? b = some o) : SIn C ad σ h' :=
 ⟨S.len, fun i p o e1 e2 => (S.obj i p o e1 e2).mono (fun _ _ e => e) (fun a vs n e => k a _ e) (fun o e => k _ o e) (fun o e => k _ o e), S.apart, S.new, fun b o e => k b o (S.keep b o e), S.pin⟩
theorem RF.keeps {C : Ctx} {nm : List Str} {L : Addr} {h h' : Heap} {ad : Adr} {fr : Frame} {σ : Store} (R : RF C nm L h ad fr σ) (k : ∀ b o, h.get? b = some o → h'.get? b = some o) : RF C nm L h' ad fr σ := by
 obtain ⟨m, F, hm⟩ := R.fr
 refine ⟨R.st.keeps k, ⟨m, ⟨F.ns.keeps k, fun b o e => k b o (F.keep b o e), F.above⟩, fun i av e => ?_⟩, R.off⟩
 obtain ⟨x, v, h1, h2, h3⟩ := hm i av e
 exact ⟨x, v, h1, h2, h3.mono (fun _ _ e => e) fun a vs n e => k a _ e⟩
theorem RF.of_ext {C : Ctx} {nm : List Str} {L : Addr} {h h' : Heap} {ad ad' : Adr} {fr : Frame} {σ σ' : Store} (R : RF C nm L h ad fr σ) (x : Ext ad [] h ad' h') (S : SIn C ad' σ' h') : RF C nm L h' ad' fr σ' := by
 obtain ⟨m, F, hm⟩ := R.fr
 have lL : ∀ o, h.get? L = some o → h'.get? L = some o := fun o e => x.keep L o e R.off (by simp)
 obtain ⟨oL, es, ep, hL, _⟩ := id F.ns
 refine ⟨S, ⟨m, ⟨F.ns.at' lL, S.keep, F.above⟩, fun i av e => ?_⟩, ?_⟩
 · obtain ⟨y, v, h1, h2, h3⟩ := hm i av e
   exact ⟨y, v, h1, h2, x.val h3⟩
 · obtain ⟨l, rfl, hl⟩ := x.more
   exact not_touch_new hl hL R.off
theorem Ext.weaken {ad ad' : Adr} {ex : List Addr} {h h' : Heap} (x : Ext ad [] h ad' h') : Ext ad ex h ad' h' := ⟨x.more, fun b o e ht _ => x.keep b o e ht (by simp), x.tups, x.grow⟩
inductive Res (α : Type) where
 | ok (a : α) (σ : Store)
 | exc (e : AV) (σ : Store)
 | stuck
noncomputable def Res.bind {α β : Type} (r : Res α) (k : α → Store → Res β) : Res β := match r with
 | .ok a σ => k a σ
 | .exc e σ => .exc e σ
 | .stuck => .stuck
@[simp] theorem Res.bind_ok {α β : Type} (a : α) (σ : Store) (k : α → Store → Res β) : (Res.ok a σ).bind k = k a σ := rfl
@[simp] theorem Res.bind_exc {α β : Type} (e : AV) (σ : Store) (k : α → Store → Res β) : (Res.exc e σ : Res α).bind k = .exc e σ := rfl
@[simp] theorem Res.bind_stuck {α β : Type} (k : α → Store → Res β) : (Res.stuck : Res α).bind k = .stuck := rfl
noncomputable abbrev DE := Frame → Store → Res AV
noncomputable abbrev DB := Frame → Store → Res Bool
noncomputable abbrev DL := Frame → Store → Res (List AV)
structure Room (n : Nat) (A : Around) : Prop where
 depth : A.depth + n < recursionLimit
 units : A.units + 20 * n + 200 < cLine
 quiet : 10 ≤ n → A.handled = none
structure RoomL (C : Ctx) (n : Nat) (A : Around) (L : Addr) (cl : List (Str × Addr)) : Prop extends Room n A where
 lim : C.lim A L cl
noncomputable def OutX {α β : Type} (C : Ctx) (nm : List Str) (L : Addr) (s : Shared) (ad : Adr) (fr : Frame) (I : Adr → Heap → β → α → Prop) (Q : β → Shared → Prop) (E : Value → Shared → Prop) (r : Res α) : Prop := match r with
 | .ok a σ' => ∀ v h t ad', RF C nm L h ad' fr σ' → Ext ad [L] s.heap ad' h → I ad' h v a → Q v { s with heap := h, toks := t }
 | .exc a σ' => ∀ v h t ad', RF C nm L h ad' fr σ' → Ext ad [L] s.heap ad' h → VIn ad' h v a → E v { s with heap := h, toks := t }
 | .stuck => False
noncomputable abbrev OutE (C : Ctx) (nm : List Str) (L : Addr) (s : Shared) (ad : Adr) (fr : Frame) := OutX (α := AV) (β := Value) C nm L s ad fr VIn
noncomputable abbrev OutL (C : Ctx) (nm : List Str) (L : Addr) (s : Shared) (ad : Adr) (fr : Frame) := OutX (α := List AV) (β := List Value) C nm L s ad fr VAll
noncomputable abbrev OutB (C : Ctx) (nm : List Str) (L : Addr) (s : Shared) (ad : Adr) (fr : Frame) := OutX (α := Bool) (β := Bool) C nm L s ad fr (fun _ _ b a => b = a)
section
variable {α β α' β' : Type} {C : Ctx} {nm : List Str} {L : Addr} {s : Shared} {ad ad₁ : Adr} {fr : Frame} {I : Adr → Heap → β → α → Prop} {I' : Adr → Heap → β' → α' → Prop} {Q : β → Shared → Prop} {Q' : β' → Shared → Prop} {E : Value → Shared → Prop} {h₁ : Heap} {t₁ : Nat}
theorem OutX.rebase {r : Res α} (o : OutX C nm L s ad fr I Q E r) (x : Ext ad [L] s.heap ad₁ h₁) : OutX C nm L { s with heap := h₁, toks := t₁ } ad₁ fr I Q E r := by
 cases r with
 | ok a σ' => exact fun v h t ad' R y i => o v h t ad' R (x.trans y) i
 | exc a σ' => exact fun v h t ad' R y i => o v h t ad' R (x.trans y) i
 | stuck => exact o
theorem OutX.bind {r : Res α} {k : α → Store → Res α'} (o : OutX C nm L s ad fr I' Q' E (r.bind k))
 (hQ : ∀ a σ' v h₁ t₁ ad₁, RF C nm L h₁ ad₁ fr σ' → Ext ad [L] s.heap ad₁ h₁ → I ad₁ h₁ v a → OutX C nm L { s with heap := h₁, toks := t₁ } ad₁ fr I' Q' E (k a σ') → Q v { s with heap := h₁, toks := t₁ }) :
 OutX C nm L s ad fr I Q E r := by
 cases r with
 | ok a σ' => exact fun v h t ad' R y i => hQ a σ' v h t ad' R y i (OutX.rebase (r := k a σ') o y)
 | exc a σ' => exact o
 | stuck => exact o
theorem OutX.here {a : α} {σ : Store} {v : β} (o : OutX C nm L s ad fr I Q E (.ok a σ)) {h : Heap} {t : Nat} {ad' : Adr} (R : RF C nm L h ad' fr σ) (x : Ext ad [L] s.heap ad' h) (i : I ad' h v a) : Q v { s with heap := h, toks := t } := o v h t ad' R x i
theorem OutX.same {a : α} {σ : Store} {v : β} (o : OutX C nm L s ad fr I Q E (.ok a σ)) (t : Nat) (R : RF C nm L s.heap ad fr σ) (i : I ad s.heap v a) : Q v { s with toks := t } := o v s.heap t ad R .refl i
end
noncomputable def SndE (C : Ctx) (n : Nat) (sc : Scope) (nm : List Str) (e : Expr) (d : DE) : Prop :=
 ∀ (A : Around) (qn : Str) (L f : Addr) (cd : Value) (cl : List (Str × Addr)) (s : Shared) (ad : Adr) (fr : Frame) (σ : Store) (Q : Value → Shared → Prop) (E : Value → Shared → Prop),
  RoomL C n A L cl → RF C nm L s.heap ad fr σ → OutE C nm L s ad fr Q E (d fr σ) → wpAny (model C.prog C.w) A (eval e (envX qn sc L f cd cl)) Q E s
noncomputable def SndB (C : Ctx) (n : Nat) (sc : Scope) (nm : List Str) (e : Expr) (d : DB) : Prop :=
 ∀ (A : Around) (qn : Str) (L f : Addr) (cd : Value) (cl : List (Str × Addr)) (s : Shared) (ad : Adr) (fr : Frame) (σ : Store) (Q : Bool → Shared → Prop) (E : Value → Shared → Prop),
  RoomL C n A L cl → RF C nm L s.heap ad fr σ → OutB C nm L s ad fr Q E (d fr σ) → wpAny (model C.prog C.w) A (isTrue e (envX qn sc L f cd cl) (eval e (envX qn sc L f cd cl))) Q E s
structure SndL (C : Ctx) (n : Nat) (sc : Scope) (nm : List Str) (es : List Expr) (d : DL) : Prop where
 bare : ∀ env pos, (backTo pos (starEach es env)).any (·.1) = false
 sem : ∀ (A : Around) (qn : Str) (L f : Addr) (cd : Value) (cl : List (Str × Addr)) (pos : Pos) (s : Shared) (ad : Adr) (fr : Frame) (σ : Store) (Q : List Value → Shared → Prop) (E : Value → Shared → Prop),
  RoomL C n A L cl → RF C nm L s.heap ad fr σ → OutL C nm L s ad fr Q E (d fr σ) → wpAny (model C.prog C.w) A (spliced (backTo pos (starEach es (envX qn sc L f cd cl)))) Q E s
structure FnS (sc : Scope) (nm gn : List Str) : Prop where
 kind : sc.kind = .function
 loc : ∀ x ∈ nm, sc.names.lookup x = some .local
 glob : ∀ x ∈ gn, sc.names.lookup x = some .globalImplicit
 nodup : nm.Nodup
 debug : ∀ x ∈ nm ++ gn, (x == ("__debug__" : Str)) = false
end Mine
end
section
open PySem PySem.W PySem.Calls PyProof.Rows
namespace Mine
mutual
noncomputable def AV.dat : AV → Dat
 | .none => .none
 | .bool b => .bool b
 | .int i => .int i
 | .str s => .str ⟨s.toArray⟩
 | .tup vs => .tuple (AV.dats vs)
 | .loc _ => .bytes #[]
noncomputable def AV.dats : List AV → List Dat
 | [] => []
 | a :: r => a.dat :: AV.dats r
end
noncomputable def plain (a : AV) : Bool := kqdOk 120 a.dat
noncomputable def plains (as : List AV) : Bool := as.all plain
open Classical in
noncomputable def eqA (a b : AV) : Bool := decide (a = b)
open Classical in
noncomputable def eqAs (a b : List AV) : Bool := decide (a = b)
noncomputable def DV (i : Nat) : DE := fun fr σ => match fr[i]? with
 | some (some v) => .ok v σ
 | _ => .stuck
noncomputable def DC (a : AV) : DE := fun _ σ => .ok a σ
noncomputable def small (a : Int) : Bool := decide (-(2 ^ 60) < a) && decide (a < 2 ^ 60)
noncomputable def binI (op : Operator) (i j : Int) (σ : Store) : Res AV := match op with
 | .Add => .ok (.int (i + j)) σ
 | .Sub => .ok (.int (i - j)) σ
 | .Mult => if small i then .ok (.int (i * j)) σ else .stuck
 | .Mod => if j ≠ 0 then .ok (.int (Int.fmod i j)) σ else .stuck
 | .FloorDiv => if j ≠ 0 ∧ small j = true then .ok (.int (Int.fdiv i j)) σ else .stuck
 | _ => .stuck
noncomputable def binS (op : Operator) (x y : List Nat) (σ : Store) : Res AV := match op with
 | .Add => if x.length + y.length ≤ 1000 then .ok (.str (x ++ y)) σ else .stuck
 | _ => .stuck
noncomputable def binL (op : Operator) (m n : Nat) (σ : Store) : Res AV := match op with
 | .Add => (match σ[m]?, σ[n]? with
  | some (.list xs), some (.list ys) => if xs.length + ys.length ≤ 1000 then .ok (.loc σ.length) (σ ++ [.list (xs ++ ys)]) else .stuck
  | _, _ => .stuck)
 | _ => .stuck
noncomputable def binF (op : Operator) (a b : AV) (σ : Store) : Res AV := match a, b with
 | .int i, .int j => binI op i j σ
 | .str x, .str y => binS op x y σ
 | .loc m, .loc n => binL op m n σ
 | _, _ => .stuck
noncomputable def dBin (op : Operator) (d e : DE) : DE := fun fr σ => (d fr σ).bind fun a σ => (e fr σ).bind fun b σ => binF op a b σ
noncomputable def isNone : AV → Bool
 | .none => true
 | _ => false
noncomputable def cmpEq (a b : AV) (σ : Store) : Res AV := match a, b with
 | .int i, .int j => .ok (.bool (decide (i = j))) σ
 | .str x, .str y => .ok (.bool (decide (x = y))) σ
 | .tup x, .tup y => if plain (.tup x) && plain (.tup y) then .ok (.bool (eqAs x y)) σ else .stuck
 | .loc m, .loc n => (match σ[m]?, σ[n]? with
  | some (.list x), some (.list y) => if plain (.tup x) && plain (.tup y) then .ok (.bool (eqAs x y)) σ else .stuck
  | _, _ => .stuck)
 | _, _ => .stuck
noncomputable def cmpNe (a b : AV) (σ : Store) : Res AV := match a, b with
 | .int i, .int j => .ok (.bool (!decide (i = j))) σ
 | .str x, .str y => .ok (.bool (!decide (x = y))) σ
 | .loc m, .loc n => (match σ[m]?, σ[n]? with
  | some (.list x), some (.list y) => if plain (.tup x) && plain (.tup y) then .ok (.bool (!eqAs x y)) σ else .stuck
  | _, _ => .stuck)
 | _, _ => .stuck
noncomputable def cmpI (f : Int → Int → Bool) (a b : AV) (σ : Store) : Res AV := match a, b with
 | .int i, .int j => .ok (.bool (f i j)) σ
 | _, _ => .stuck
noncomputable def cmpIs (f : Bool → Bool) (a b : AV) (σ : Store) : Res AV := match b with
 | .none => .ok (.bool (f (isNone a))) σ
 | _ => .stuck
noncomputable def cmpKey (f : Bool → Bool) (i : Int) (n : Nat) (σ : Store) : Res AV := match σ[n]? with
 | some (.dictI es) => .ok (.bool (f (es.any fun e => decide (e.1 = i)))) σ
 | _ => .stuck
noncomputable def cmpIn (a b : AV) (σ : Store) : Res AV := match a, b with
 | .str [c], .str y => .ok (.bool (decide (c ∈ y))) σ
 | .int i, .loc n => cmpKey id i n σ
 | _, _ => .stuck
noncomputable def cmpNotIn (a b : AV) (σ : Store) : Res AV := match a, b with
 | .int i, .loc n => cmpKey not i n σ
 | _, _ => .stuck
noncomputable def cmpF (op : CmpOp) (a b : AV) (σ : Store) : Res AV := match op with
 | .Eq => cmpEq a b σ
 | .NotEq => cmpNe a b σ
 | .Lt => cmpI (fun i j => decide (i < j)) a b σ
 | .LtE => cmpI (fun i j => decide (i ≤ j)) a b σ
 | .Gt => cmpI (fun i j => decide (j < i)) a b σ
 | .GtE => cmpI (fun i j => decide (j ≤ i)) a b σ
 | .Is => cmpIs id a b σ
 | .IsNot => cmpIs not a b σ
 | .In => cmpIn a b σ
 | .NotIn => cmpNotIn a b σ
noncomputable def dCmp (op : CmpOp) (d e : DE) : DE := fun fr σ => (d fr σ).bind fun a σ => (e fr σ).bind fun b σ => cmpF op a b σ
noncomputable def dNeg (d : DE) : DE := fun fr σ => (d fr σ).bind fun a σ => match a with
 | .int i => .ok (.int (-i)) σ
 | _ => .stuck
noncomputable def boolF (a : AV) (σ : Store) : Res Bool := match a with
 | .bool b => .ok b σ
 | _ => .stuck
noncomputable def bVal (d : DE) : DB := fun fr σ => (d fr σ).bind boolF
noncomputable def bNot (d : DB) : DB := fun fr σ => (d fr σ).bind fun b σ => .ok (!b) σ
noncomputable def bAnd (d e : DB) : DB := fun fr σ => (d fr σ).bind fun b σ => if b then e fr σ else .ok false σ
noncomputable def bOr (d e : DB) : DB := fun fr σ => (d fr σ).bind fun b σ => if b then .ok true σ else e fr σ
noncomputable def dOf (d : DB) : DE := fun fr σ => (d fr σ).bind fun b σ => .ok (.bool b) σ
noncomputable def dAnd (d e : DE) : DE := fun fr σ => (d fr σ).bind fun a σ => (boolF a σ).bind fun b σ => if b then e fr σ else .ok (.bool false) σ
noncomputable def dOr (d e : DE) : DE := fun fr σ => (d fr σ).bind fun a σ => (boolF a σ).bind fun b σ => if b then .ok (.bool true) σ else e fr σ
noncomputable def dIf (c : DB) (d e : DE) : DE := fun fr σ => (c fr σ).bind fun b σ => if b then d fr σ else e fr σ
noncomputable def attrF (k : Nat) (a : AV) (σ : Store) : Res AV := match a with
 | .loc n => (match σ[n]? with
  | some (.inst c fs) => if c = 1 then .stuck else (match fs.lookup k with
   | some v => .ok v σ
   | none => .stuck)
  | _ => .stuck)
 | _ => .stuck
noncomputable def dAttr (k : Nat) (d : DE) : DE := fun fr σ => (d fr σ).bind (attrF k)
noncomputable def itemF (a b : AV) (σ : Store) : Res AV := match a, b with
 | .loc n, .int i => (match σ[n]? with
  | some (.list xs) => if 0 ≤ i then (match xs[i.toNat]? with | some v => if xs.length ≤ 2 ^ 24 then .ok v σ else .stuck | none => .stuck) else .stuck
  | some (.dictI es) => (match es.find? fun e => decide (e.1 = i) with | some e => .ok e.2 σ | none => .stuck)
  | _ => .stuck)
 | .tup xs, .int i => if 0 ≤ i ∧ i < 2 ^ 60 then (match xs[i.toNat]? with | some v => .ok v σ | none => .stuck) else .stuck
 | .str xs, .int i => if 0 ≤ i ∧ i < 2 ^ 60 then (match xs[i.toNat]? with | some c => .ok (.str [c]) σ | none => .stuck) else .stuck
 | _, _ => .stuck
noncomputable def dItem (d e : DE) : DE := fun fr σ => (d fr σ).bind fun a σ => (e fr σ).bind fun b σ => itemF a b σ
noncomputable def LN : DL := fun _ σ => .ok [] σ
noncomputable def LC (d : DE) (e : DL) : DL := fun fr σ => (d fr σ).bind fun a σ => (e fr σ).bind fun as σ => .ok (a :: as) σ
noncomputable def dTup (d : DL) : DE := fun fr σ => (d fr σ).bind fun as σ => if as.length ≤ 1000 then .ok (.tup as) σ else .stuck
noncomputable def dList (d : DL) : DE := fun fr σ => (d fr σ).bind fun as σ => if as.length ≤ 1000 then .ok (.loc σ.length) (σ ++ [.list as]) else .stuck
noncomputable def dDictS : DE := fun _ σ => .ok (.loc σ.length) (σ ++ [.dictS []])
noncomputable def dDictI : DE := fun _ σ => .ok (.loc σ.length) (σ ++ [.dictI []])
noncomputable def dDictP : DE := fun _ σ => .ok (.loc σ.length) (σ ++ [.dictP []])
end Mine
end
section
open PySem PySem.W PySem.Calls PyProof.Rows
namespace Mine
section
variable {C : Ctx} {nm : List Str} {L : Addr} {h h' : Heap} {ad : Adr} {fr : Frame} {σ : Store}
theorem SIn.there (S : SIn C ad σ h) {b : Addr} (ht : Touch ad b) : ∃ o, h.get? b = some o := by
 obtain ⟨p, hp, hb⟩ := ht
 obtain ⟨i, li, rfl⟩ := List.getElem_of_mem hp
 have hi : ad[i]? = some ad[i] := List.getElem?_eq_getElem li
 have li' : i < List.length σ := S.len ▸ li
 have x := S.obj i _ _ hi (List.getElem?_eq_getElem li')
 have st : (∃ o, h.get? ad[i].1 = some o) ∧ ∃ o, h.get? ad[i].2 = some o := let ⟨o1, o2, e1, e2, _⟩ := x.objs; ⟨⟨o1, e1⟩, ⟨o2, e2⟩⟩
 rcases hb with rfl | rfl
 · exact st.1
 · exact st.2
theorem SIn.fresh (S : SIn C ad σ h) {b : Addr} (e : h.get? b = none) : ¬ Touch ad b := fun ht => by
 obtain ⟨o, q⟩ := S.there ht
 rw [e] at q; cases q
theorem SIn.ground (S : SIn C ad σ h) {b : Addr} (e : h.get? b = none) : C.h₀.get? b = none := by
 cases q : C.h₀.get? b with
 | none => rfl
 | some o => rw [S.keep _ _ q] at e; cases e
theorem idx_more {ad : Adr} {x : Addr × Addr} : ∀ (n : Nat) p, ad[n]? = some p → (ad ++ [x])[n]? = some p := fun n p e => by
 rw [List.getElem?_append_left (List.getElem?_eq_some_iff.mp e).1]; exact e
theorem SIn.more (S : SIn C ad σ h) {a d : Addr} {ao : AO} (ha : ¬ Touch ad a) (hd : ¬ Touch ad d) (ga : C.h₀.get? a = none) (gd : C.h₀.get? d = none)
 (ho : OIn C (ad ++ [(a, d)]) h (a, d) ao) : SIn C (ad ++ [(a, d)]) (σ ++ [ao]) h := by
 refine ⟨by simp [S.len], fun i p o e1 e2 => ?_, ?_, fun p hp => ?_, S.keep, fun q hq => idx_more _ _ (S.pin q hq)⟩
 · rcases Nat.lt_trichotomy i ad.length with q | q | q
   · rw [List.getElem?_append_left q] at e1
     rw [List.getElem?_append_left (S.len ▸ q)] at e2
     exact (S.obj i p o e1 e2).mono idx_more (fun _ _ _ e => e) (fun _ e => e) fun _ e => e
   · subst q
     rw [List.getElem?_append_right (Nat.le_refl _)] at e1
     rw [List.getElem?_append_right (by rw [S.len]; exact Nat.le_refl _)] at e2
     simp at e1
     simp [S.len] at e2
     subst e1; subst e2; exact ho
   · rw [List.getElem?_eq_none (by simp; tb_rel)] at e1; cases e1
 · rw [List.pairwise_append]
   refine ⟨S.apart, List.pairwise_singleton _ _, fun p hp q hq => ?_⟩
   rw [List.mem_singleton.mp hq]
   exact ⟨fun e => ha ⟨p, hp, .inl e.symm⟩, fun e => hd ⟨p, hp, .inl e.symm⟩, fun e => ha ⟨p, hp, .inr e.symm⟩, fun e => hd ⟨p, hp, .inr e.symm⟩⟩
 · rcases List.mem_append.mp hp with hp | hp
   · exact S.new p hp
   · rw [List.mem_singleton.mp hp]
     exact ⟨ga, gd⟩
theorem SIn.add (S : SIn C ad σ h) (k : ∀ b o, h.get? b = some o → h'.get? b = some o) {a d : Addr} {ao : AO} (ha : h.get? a = none) (hd : h.get? d = none)
 (ho : OIn C (ad ++ [(a, d)]) h' (a, d) ao) : SIn C (ad ++ [(a, d)]) (σ ++ [ao]) h' :=
 (S.keeps k).more (S.fresh ha) (S.fresh hd) (S.ground ha) (S.ground hd) ho
theorem RF.more (R : RF C nm L h' ad fr σ) {a d : Addr} {ao : AO} (x : Ext ad [L] h ad h') (ha : h.get? a = none) (hd : h.get? d = none) (hLa : a ≠ L) (hLd : d ≠ L) (S : SIn C ad σ h)
 (ho : OIn C (ad ++ [(a, d)]) h' (a, d) ao) : RF C nm L h' (ad ++ [(a, d)]) fr (σ ++ [ao]) ∧ Ext ad [L] h (ad ++ [(a, d)]) h' := by
 obtain ⟨m, F, hm⟩ := R.fr
 refine ⟨⟨R.st.more (S.fresh ha) (S.fresh hd) (S.ground ha) (S.ground hd) ho, ⟨m, F, fun i av e => ?_⟩, ?_⟩, ⟨⟨_, rfl, fun p hp => by rw [List.mem_singleton.mp hp]; exact ⟨ha, hd⟩⟩, x.keep, x.tups, x.grow⟩⟩
 · obtain ⟨y, v, h1, h2, h3⟩ := hm i av e
   exact ⟨y, v, h1, h2, h3.mono idx_more fun _ _ _ e => e⟩
 · rintro ⟨p, hp, hb⟩
   rcases List.mem_append.mp hp with hp | hp
   · exact R.off ⟨p, hp, hb⟩
   · rw [List.mem_singleton.mp hp] at hb
     rcases hb with hb | hb
     · exact hLa hb.symm
     · exact hLd hb.symm
theorem Ext.add {ex : List Addr} (k : ∀ b o, h.get? b = some o → h'.get? b = some o) {a d : Addr} (ha : h.get? a = Option.none) (hd : h.get? d = Option.none) : Ext ad ex h (ad ++ [(a, d)]) h' :=
 ⟨⟨_, rfl, fun p hp => by rw [List.mem_singleton.mp hp]; exact ⟨ha, hd⟩⟩, fun b o e _ _ => k b o e, fun b vs n e => k b _ e, fun b o e => ⟨o, k b o e⟩⟩
theorem RF.add (R : RF C nm L h ad fr σ) (k : ∀ b o, h.get? b = some o → h'.get? b = some o) {a d : Addr} {ao : AO} (ha : h.get? a = none) (hd : h.get? d = none)
 (ho : OIn C (ad ++ [(a, d)]) h' (a, d) ao) : RF C nm L h' (ad ++ [(a, d)]) fr (σ ++ [ao]) :=
 R.of_ext (Ext.add k ha hd) (R.st.add k ha hd ho)
theorem push_keeps (h : Heap) (o : Obj) : ∀ b ob, h.get? b = some ob → (h.push o).get? b = some ob := fun b ob e => Heap.get?_push_of_some o e
theorem push_new (h : Heap) : h.get? h.objs.size = none := none_of_size (Nat.le_refl _)
theorem Ext.upd {ex : List Addr} (S : SIn C ad σ h) {i : Nat} {p : Addr × Addr} (hi : ad[i]? = some p) (k : ∀ b o, h.get? b = some o → b ≠ p.1 → b ≠ p.2 → h'.get? b = some o) (g : ∀ b o, h.get? b = some o → ∃ o', h'.get? b = some o') :
 Ext ad ex h ad h' := by
 have hp : p ∈ ad := List.mem_of_getElem? hi
 refine ⟨⟨[], (List.append_nil _).symm, fun _ hp => nomatch hp⟩, fun b o e ht _ => k b o e (fun q => ht ⟨p, hp, .inl q⟩) fun q => ht ⟨p, hp, .inr q⟩, fun b vs n e => ?_, g⟩
 have nt := S.notTuple e
 exact k b _ e (fun q => nt ⟨p, hp, .inl q⟩) fun q => nt ⟨p, hp, .inr q⟩
theorem SIn.upd (S : SIn C ad σ h) {i : Nat} {p : Addr × Addr} {ao : AO} (hi : ad[i]? = some p) (k : ∀ b o, h.get? b = some o → b ≠ p.1 → b ≠ p.2 → h'.get? b = some o) (g : ∀ b o, h.get? b = some o → ∃ o', h'.get? b = some o')
 (ho : OIn C ad h' p ao) : SIn C ad (σ.set i ao) h' := by
 have x : Ext ad [] h ad h' := Ext.upd S hi k g
 refine ⟨by rw [List.length_set]; exact S.len, fun j q o e1 e2 => ?_, S.apart, S.new, fun b o e => ?_, S.pin⟩
 · by_cases ij : i = j
   · subst ij
     rw [hi] at e1; cases e1
     rw [List.getElem?_set_self (by have := (List.getElem?_eq_some_iff.mp hi).1; rw [S.len] at this; exact this)] at e2
     cases e2; exact ho
   · rw [List.getElem?_set_ne ij] at e2
     have ap := apart_ne S.apart e1 hi (Ne.symm ij)
     exact (S.obj j q o e1 e2).mono (fun _ _ e => e) x.tups (fun o e => k _ o e ap.1 ap.2.1) fun o e => k _ o e ap.2.2.1 ap.2.2.2
 · have hn := S.new p (List.mem_of_getElem? hi)
   refine k b o (S.keep b o e) (fun q => ?_) fun q => ?_
   · rw [q, hn.1] at e; cases e
   · rw [q, hn.2] at e; cases e
theorem RF.upd (R : RF C nm L h ad fr σ) {i : Nat} {p : Addr × Addr} {ao : AO} (hi : ad[i]? = some p) (k : ∀ b o, h.get? b = some o → b ≠ p.1 → b ≠ p.2 → h'.get? b = some o) (g : ∀ b o, h.get? b = some o → ∃ o', h'.get? b = some o')
 (ho : OIn C ad h' p ao) : RF C nm L h' ad fr (σ.set i ao) := R.of_ext (Ext.upd R.st hi k g) (R.st.upd hi k g ho)
theorem sameBut_keeps {a : Addr} (x : Heap.SameBut a h h') : ∀ b o, h.get? b = some o → b ≠ a → h'.get? b = some o := fun b o e hb => (x.2 b hb).trans e
theorem SIn.at (S : SIn C ad σ h) {i : Nat} {p : Addr × Addr} {o : AO} (hi : ad[i]? = some p) (ho : σ[i]? = some o) : OIn C ad h p o := S.obj i p o hi ho
noncomputable def allNews (h₀ : Heap) (L : Addr) (h : Heap) : List (Addr × Obj) := (List.range h.objs.size).filterMap fun a => if a = L then none else if (h₀.get? a).isSome then none else (h.get? a).map fun o => (a, o)
theorem mem_allNews {h₀ : Heap} {p : Addr × Obj} : p ∈ allNews h₀ L h ↔ h.get? p.1 = some p.2 ∧ p.1 ≠ L ∧ h₀.get? p.1 = none := by
 unfold allNews
 rw [List.mem_filterMap]
 constructor
 · rintro ⟨a, _, e⟩
   split at e
   · cases e
   · split at e
     · cases e
     · rename_i h1 h2
       obtain ⟨o, ho, rfl⟩ := Option.map_eq_some_iff.mp e
       exact ⟨ho, h1, by simpa using h2⟩
 · rintro ⟨h1, h2, h3⟩
   refine ⟨p.1, List.mem_range.mpr (Heap.lt_size h1), ?_⟩
   rw [if_neg h2, h3, h1]; rfl
theorem news_all {h₀ : Heap} : News h₀ L h (allNews h₀ L h) := fun p hp => mem_allNews.mp hp
theorem keeps_of_news {h₀ : Heap} {m : Str → Option Value} (F : Fr h₀ L h' m) (F0 : Fr h₀ L h m) (N : ∀ p ∈ allNews h₀ L h, h'.get? p.1 = some p.2) : ∀ b o, h.get? b = some o → b ≠ L → h'.get? b = some o := by
 intro b o e hb
 cases q : h₀.get? b with
 | none => exact N (b, o) (mem_allNews.mpr ⟨e, hb, q⟩)
 | some o' =>
  have := F0.keep b o' q
  rw [e] at this; cases this
  exact F.keep b o q
theorem RF.frame (R : RF C nm L h ad fr σ) {m : Str → Option Value} (F : Fr C.h₀ L h m) (hm : ∀ (i : Nat) av, fr[i]? = some (some av) → ∃ x v, nm[i]? = some x ∧ m x = some v ∧ VIn ad h v av)
 (F' : Fr C.h₀ L h' m) (k : ∀ b o, h.get? b = some o → b ≠ L → h'.get? b = some o) : RF C nm L h' ad fr σ ∧ Ext ad [L] h ad h' := by
 obtain ⟨oL, es, ep, hL, hLd, _⟩ := id F.ns
 obtain ⟨oL', es', ep', hL', hLd', _⟩ := id F'.ns
 have x : Ext ad [L] h ad h' := ⟨⟨[], (List.append_nil _).symm, fun _ hp => nomatch hp⟩, fun b o e _ hb => k b o e (by simpa using hb), fun b vs n e => k b _ e (fun q => by
  subst q; rw [hL] at e; cases e; cases hLd), fun b o e => by
  by_cases q : b = L
  · subst q; exact ⟨_, hL'⟩
  · exact ⟨o, k b o e q⟩⟩
 have nt : ∀ (i : Nat) (p : Addr × Addr), ad[i]? = some p → p.1 ≠ L ∧ p.2 ≠ L := fun i p e => ⟨fun q => R.off ⟨p, List.mem_of_getElem? e, .inl q.symm⟩, fun q => R.off ⟨p, List.mem_of_getElem? e, .inr q.symm⟩⟩
 refine ⟨⟨⟨R.st.len, fun i p o e1 e2 => (R.st.obj i p o e1 e2).mono (fun _ _ e => e) x.tups (fun o e => k _ o e (nt i p e1).1) fun o e => k _ o e (nt i p e1).2, R.st.apart, R.st.new, F'.keep, R.st.pin⟩, ⟨m, F', fun i av e => ?_⟩, R.off⟩, x⟩
 obtain ⟨y, v, h1, h2, h3⟩ := hm i av e
 exact ⟨y, v, h1, h2, x.val h3⟩
end
end Mine
end
section
open PySem PySem.W PySem.Calls PyProof.Rows
namespace Mine
section
variable {C : Ctx} {n : Nat} {sc : Scope} {nm gn : List Str}
set_option tactic.hygienic true in
theorem SndE.var (S : FnS sc nm gn) (i : Nat) {x : Str} {pos : Pos} (hx : nm[i]? = some x) : SndE C n sc nm (.Name x pos) (DV i) := by
 intro A qn L f cd cl s ad fr σ Q E _ R o
 obtain ⟨m, F, hm⟩ := R.fr
 unfold DV at o
 split at o
 · rename_i v e
   obtain ⟨x', v', h1, h2, h3⟩ := hm i v e
   rw [hx] at h1; cases h1
   have mem : x ∈ nm := List.mem_of_getElem? hx
   exact nameX_L F h2 (OutX.here o R .refl h3) S.kind (S.loc x mem) (S.debug x (List.mem_append_left _ mem))
 · exact o.elim
theorem SndE.glob (S : FnS sc nm gn) {x : Str} {pos : Pos} {v : Value} {a : AV} (j : Nat) (hx : gn[j]? = some x) (hv : C.mg x = some v) (hi : ∀ ad h, (∀ b o, C.h₀.get? b = some o → h.get? b = some o) → VIn ad h v a) :
 SndE C n sc nm (.Name x pos) (DC a) := by
 intro A qn L f cd cl s ad fr σ Q E _ R o
 obtain ⟨m, F, hm⟩ := R.fr
 have mem : x ∈ gn := List.mem_of_getElem? hx
 exact Name_function_global S.kind (S.glob x mem) (loadGlobal_global (env := envX qn sc L f cd cl) (C.T.g.keeps F.keep) hv (OutX.here o R .refl (hi _ _ F.keep))) (S.debug x (List.mem_append_right _ mem))
theorem SndE.cint {i : Int} {k : Nat} {pos : Pos} : SndE C n sc nm (.Constant (.int i) k pos) (DC (.int i)) := by
 intro A qn L f cd cl s ad fr σ Q E _ R o
 exact wpAny_Constant_int (OutX.same o _ R (.int i _))
theorem SndE.cbool {b : Bool} {k : Nat} {pos : Pos} : SndE C n sc nm (.Constant (.bool b) k pos) (DC (.bool b)) := by
 intro A qn L f cd cl s ad fr σ Q E _ R o
 exact wpAny_Constant_bool (OutX.here o R .refl (.bool b))
theorem SndE.cnone {k : Nat} {pos : Pos} : SndE C n sc nm (.Constant .none k pos) (DC .none) := by
 intro A qn L f cd cl s ad fr σ Q E _ R o
 exact wpAny_Constant_none (OutX.here o R .refl .none)
theorem SndE.cstr {x : Str} {cs : List Nat} {k : Nat} {pos : Pos} (hx : x = ⟨cs.toArray⟩) : SndE C n sc nm (.Constant (.str x) k pos) (DC (.str cs)) := by
 intro A qn L f cd cl s ad fr σ Q E _ R o
 subst hx
 exact wpAny_Constant_str (OutX.same o _ R (.str cs _))
theorem VIn.int_inv {ad : Adr} {h : Heap} {v : Value} {i : Int} (x : VIn ad h v (.int i)) : ∃ t, v = .int i t := by cases x; exact ⟨_, rfl⟩
theorem VIn.str_inv {ad : Adr} {h : Heap} {v : Value} {s : List Nat} (x : VIn ad h v (.str s)) : ∃ t, v = .str ⟨s.toArray⟩ t := by cases x; exact ⟨_, rfl⟩
theorem VIn.bool_inv {ad : Adr} {h : Heap} {v : Value} {b : Bool} (x : VIn ad h v (.bool b)) : v = .bool b := by cases x; rfl
theorem VIn.none_inv {ad : Adr} {h : Heap} {v : Value} (x : VIn ad h v .none) : v = .none := by cases x; rfl
set_option tactic.hygienic true in
theorem VIn.loc_inv {ad : Adr} {h : Heap} {v : Value} {n : Nat} (x : VIn ad h v (.loc n)) : ∃ p, ad[n]? = some p ∧ v = .ref p.1 := by cases x; rename_i p e; exact ⟨p, e, rfl⟩
theorem VIn.tup_inv {ad : Adr} {h : Heap} {v : Value} {as : List AV} (x : VIn ad h v (.tup as)) : ∃ a vs k, v = .ref a ∧ h.get? a = some { cls := .type "tuple", data := .seq (vs : List Value).toArray k } ∧ VAll ad h vs as := by
 cases x; exact ⟨_, _, _, rfl, by assumption, by assumption⟩
theorem SndE.neg {e : Expr} {d : DE} {pos : Pos} (he : SndE C n sc nm e d) : SndE C n sc nm (.UnaryOp .USub e pos) (dNeg d) := by
 intro A qn L f cd cl s ad fr σ Q E ro R o
 refine wpAny_UnaryOp (he A qn L f cd cl s ad fr σ _ E ro R (OutX.bind o fun a σ' v h₁ t₁ ad₁ R₁ x₁ i₁ o => ?_))
 split at o
 · obtain ⟨t, rfl⟩ := i₁.int_inv
   exact neg_int (OutX.same o _ R₁ (.int _ _))
 · exact o.elim
theorem mulOk {i j : Int} (h : small i = true) : IntMulOk i j := by
 unfold small at h
 simp only [Bool.and_eq_true, decide_eq_true_eq] at h
 exact IntMulOk.of_left (intBits_le_64 (by tb_rel) (by tb_rel))
theorem divOk {i j : Int} (h : small j = true) : Builtin.divisionGoesByPylong i j = false := by
 unfold small at h
 simp only [Bool.and_eq_true, decide_eq_true_eq] at h
 unfold Builtin.divisionGoesByPylong
 have h1 : j.natAbs < 2 ^ 60 := by tb_rel
 have h2 : j.natAbs.log2 < 60 := by
  by_cases z : j.natAbs = 0
  · rw [z]; decide
  · exact (Nat.log2_lt z).mpr h1
 have h3 : ¬ ((if j == 0 then 0 else j.natAbs.log2 / 30 + 1) > 300) := by
  split
  · tb_rel
  · tb_rel
 simp only [decide_eq_false h3, Bool.false_and]
theorem fits_str {x y : List Nat} (h : x.length + y.length ≤ 1000) : Str.length ⟨x.toArray⟩ + Str.length ⟨y.toArray⟩ ≤ sizeLine := by
 have : sizeLine = 16777216 := by decide
 simp only [Str.length, List.size_toArray]; tb_rel
theorem str_append (x y : List Nat) : (⟨x.toArray⟩ : Str) ++ (⟨y.toArray⟩ : Str) = ⟨(x ++ y).toArray⟩ := by
 show Str.append _ _ = _
 simp [Str.append]
mutual
theorem reads_of {ad : Adr} {h : Heap} : ∀ {v : Value} {a : AV} (k : Nat), VIn ad h v a → kqdOk k a.dat = true → ∃ as, Reads h v (kqdP a.dat) as
 | _, _, _, .none, _ => ⟨_, Reads.none⟩
 | _, _, k, .bool b, q => by cases k <;> simp [AV.dat, kqdOk] at q
 | _, _, _, .int i t, _ => ⟨_, Reads.int i t⟩
 | _, _, _, .str s t, _ => ⟨_, Reads.str _ t⟩
 | _, _, 0, .tup _ _, q => by simp [AV.dat, kqdOk] at q
 | _, _, k + 1, .tup e r, q => by
  obtain ⟨as, z⟩ := readsAll_of k r (by simpa [AV.dat, kqdOk] using q)
  rw [AV.dat, kqdP]
  exact ⟨as, reads_tuple_at e rfl rfl (by simpa using z)⟩
 | _, _, k, .loc _, q => by cases k <;> simp [AV.dat, kqdOk] at q
theorem readsAll_of {ad : Adr} {h : Heap} : ∀ {vs : List Value} {as : List AV} (k : Nat), VAll ad h vs as → (∀ d ∈ AV.dats as, kqdOk k d = true) → ∃ bs, ReadsAll h vs (kqdPs (AV.dats as)) bs
 | _, _, _, .nil, _ => ⟨_, ReadsAll.nil⟩
 | _, _, k, .cons x r, q => by
  rw [AV.dats] at q
  obtain ⟨as, z⟩ := reads_of k x (q _ (.head _))
  obtain ⟨bs, y⟩ := readsAll_of k r fun d hd => q d (.tail _ hd)
  rw [AV.dats, kqdPs]
  exact ⟨_, ReadsAll.cons z y⟩
end
mutual
theorem dat_inj : ∀ (a b : AV) (k : Nat), kqdOk k a.dat = true → a.dat = b.dat → a = b
 | .none, b, _, _, e => by cases b <;> simp_all [AV.dat]
 | .bool _, b, _, _, e => by cases b <;> simp_all [AV.dat]
 | .int _, b, _, _, e => by cases b <;> simp_all [AV.dat]
 | .str s, b, _, _, e => by
  cases b <;> simp [AV.dat] at e
  subst e; rfl
 | .tup vs, b, k, q, e => by
  cases b <;> simp [AV.dat] at e
  cases k with
  | zero => simp [AV.dat, kqdOk] at q
  | succ k => rw [dats_inj vs _ k (by simpa [AV.dat, kqdOk] using q) e]
 | .loc _, b, k, q, e => by cases k <;> simp [AV.dat, kqdOk] at q
theorem dats_inj : ∀ (as bs : List AV) (k : Nat), (∀ d ∈ AV.dats as, kqdOk k d = true) → AV.dats as = AV.dats bs → as = bs
 | [], bs, _, _, e => by cases bs <;> simp_all [AV.dats]
 | a :: as, bs, k, q, e => by
  cases bs with
  | nil => simp [AV.dats] at e
  | cons b bs =>
   simp only [AV.dats, List.cons.injEq] at e
   rw [AV.dats] at q
   rw [dat_inj a b k (q _ (.head _)) e.1, dats_inj as bs k (fun d hd => q d (.tail _ hd)) e.2]
end
open Classical in
theorem eqv_dat {a b : AV} (ha : plain a = true) (hb : plain b = true) : PyData.eqv (kqdP a.dat) (kqdP b.dat) = eqA a b := by
 unfold eqA
 rw [Bool.eq_iff_iff, kqd_eqv 120 _ _ 120 ha hb, decide_eq_true_eq]
 exact ⟨dat_inj a b 120 ha, fun e => e ▸ rfl⟩
open Classical in
theorem eqA_tup (x y : List AV) : eqA (.tup x) (.tup y) = eqAs x y := by
 unfold eqA eqAs
 rw [Bool.eq_iff_iff, decide_eq_true_eq, decide_eq_true_eq]
 exact ⟨fun e => by injection e, fun e => e ▸ rfl⟩
theorem eqv_list {x y : List AV} (hx : plain (.tup x) = true) (hy : plain (.tup y) = true) : PyData.eqv (.list (kqdPs (AV.dats x))) (.list (kqdPs (AV.dats y))) = eqAs x y := by
 have e := eqv_dat hx hy
 rw [eqA_tup] at e
 rw [← e, AV.dat, AV.dat, kqdP, kqdP, PyData.eqv, PyData.eqv]
theorem lay_list {x : List AV} (hx : plain (.tup x) = true) : PyData.canLay0 (.list (kqdPs (AV.dats x))) = true ∧ PyData.depth (.list (kqdPs (AV.dats x))) ≤ 120 := by
 have := kqd_lay 120 _ hx
 rw [AV.dat, kqdP, PyData.canLay0, PyData.depth] at this
 rw [PyData.canLay0, PyData.depth]
 exact this
theorem room_eq {A : Around} {a b : Nat} (ro : Room n A) (ha : a ≤ 120) : A.units + min a b < cLine := by
 have := ro.units
 tb_rel
theorem SIn.list {ad : Adr} {σ : Store} {h : Heap} (S : SIn C ad σ h) {i : Nat} {p : Addr × Addr} {xs : List AV} (hi : ad[i]? = some p) (ho : σ[i]? = some (.list xs)) :
 ∃ vs k, h.get? p.1 = some (listOf (vs : List Value).toArray k) ∧ VAll ad h vs xs := by
 obtain ⟨_, vs, k, g, r⟩ := S.at hi ho
 exact ⟨vs, k, g, r⟩
theorem reads_listOf {ad : Adr} {h : Heap} {a : Addr} {vs : List Value} {k : Nat} {xs : List AV} (g : h.get? a = some (listOf vs.toArray k)) (r : VAll ad h vs xs) (hx : plain (.tup xs) = true) :
 ∃ as, Reads h (.ref a) (.list (kqdPs (AV.dats xs))) as := by
 obtain ⟨bs, z⟩ := readsAll_of 119 r (by simpa [plain, AV.dat, kqdOk] using hx)
 exact ⟨_, reads_list_at g rfl rfl (by simpa using z)⟩
set_option tactic.hygienic true in
theorem SndE.bin {l r : Expr} {op : Operator} {d e : DE} {pos : Pos} (hl : SndE C n sc nm l d) (hr : SndE C n sc nm r e) : SndE C n sc nm (.BinOp l op r pos) (dBin op d e) := by
 intro A qn L f cd cl s ad fr σ Q E ro R o
 refine wpAny_BinOp (hl A qn L f cd cl s ad fr σ _ E ro R (OutX.bind o fun a σ₁ v h₁ t₁ ad₁ R₁ x₁ i₁ o => ?_))
 refine hr A qn L f cd cl _ ad₁ fr σ₁ _ E ro R₁ (OutX.bind o fun b σ₂ u h₂ t₂ ad₂ R₂ x₂ i₂ o => ?_)
 have i₁ := x₂.val i₁
 unfold binF at o
 split at o
 · unfold binI at o
   split at o
   · obtain ⟨t, rfl⟩ := i₁.int_inv
     obtain ⟨t', rfl⟩ := i₂.int_inv
     exact add_int (OutX.same o _ R₂ (.int _ _))
   · obtain ⟨t, rfl⟩ := i₁.int_inv
     obtain ⟨t', rfl⟩ := i₂.int_inv
     exact sub_int (OutX.same o _ R₂ (.int _ _))
   · split at o
     · rename_i hs
       obtain ⟨t, rfl⟩ := i₁.int_inv
       obtain ⟨t', rfl⟩ := i₂.int_inv
       exact mul_int (OutX.same o _ R₂ (.int _ _)) (mulOk hs)
     · exact o.elim
   · split at o
     · rename_i hs
       obtain ⟨t, rfl⟩ := i₁.int_inv
       obtain ⟨t', rfl⟩ := i₂.int_inv
       exact mod_int' hs (OutX.same o _ R₂ (.int _ _))
     · exact o.elim
   · split at o
     · rename_i hs
       obtain ⟨t, rfl⟩ := i₁.int_inv
       obtain ⟨t', rfl⟩ := i₂.int_inv
       exact floordiv_int hs.1 (OutX.same o _ R₂ (.int _ _)) (.inl (divOk hs.2))
     · exact o.elim
   · exact o.elim
 · unfold binS at o
   split at o
   · split at o
     · rename_i hs
       obtain ⟨t, rfl⟩ := i₁.str_inv
       obtain ⟨t', rfl⟩ := i₂.str_inv
       refine add_str (fun t'' tk => ?_) (fits_str hs)
       rw [str_append]
       exact OutX.same o _ R₂ (.str _ _)
     · exact o.elim
   · exact o.elim
 · unfold binL at o
   split at o
   · split at o
     · rename_i m k xs ys e1 e2
       split at o
       · rename_i hs
         obtain ⟨p, hp, rfl⟩ := i₁.loc_inv
         obtain ⟨q, hq, rfl⟩ := i₂.loc_inv
         obtain ⟨vs, ka, g1, r1⟩ := R₂.st.list hp e1
         obtain ⟨us, kb, g2, r2⟩ := R₂.st.list hq e2
         obtain ⟨m', F, hm⟩ := R₂.fr
         refine add_arrays (its := vs.toArray) (its2 := us.toArray) F news_all ⟨_, g1, rfl, _, rfl⟩ ⟨_, g2, rfl, _, rfl⟩ (fun h' F' N' => ?_) (by
          have : sizeLine = 16777216 := by decide
          have e1 := r1.length
          have e2 := r2.length
          simp only [List.size_toArray]; tb_rel)
         have k := keeps_of_news F' F fun p hp => (N' p (.tail _ hp)).1
         have nw := N' _ (.head _)
         obtain ⟨Rz, xz⟩ := R₂.frame F hm F' k
         have rz : VAll ad₂ h' (vs ++ us) (xs ++ ys) := xz.vals (r1.append r2)
         obtain ⟨oL, _, _, hL, _⟩ := id F.ns
         have ne : h₂.objs.size ≠ L := Nat.ne_of_gt (Heap.lt_size hL)
         obtain ⟨Ry, y⟩ := Rz.more (a := h₂.objs.size) (d := h₂.objs.size) (ao := .list (xs ++ ys)) xz (push_new _) (push_new _) ne ne R₂.st ⟨rfl, vs ++ us, 0, by simpa using nw.1, rz.mono idx_more fun _ _ _ e => e⟩
         exact OutX.here o Ry y (.loc (p := (h₂.objs.size, h₂.objs.size)) (by rw [← R₂.st.len]; simp))
       · exact o.elim
     · exact o.elim
   · exact o.elim
 · exact o.elim
end
end Mine
end
section
open PySem PySem.W PySem.Calls PyProof.Rows
namespace Mine
section
variable {C : Ctx} {n : Nat} {sc : Scope} {nm gn : List Str}
theorem SIn.notSys {ad : Adr} {σ : Store} {h : Heap} (S : SIn C ad σ h) {i : Nat} {p : Addr × Addr} (hi : ad[i]? = some p) : (p.1 == sysModules) = false := by
 apply beq_eq_false_iff_ne.mpr
 intro q
 have := (S.new p (List.mem_of_getElem? hi)).1
 rw [q] at this
 have z := C.sys
 rw [this] at z; cases z
theorem KVAll.find {κ K : Type} [DecidableEq κ] [DecidableEq K] {enc : κ → K} (inj : ∀ x y, enc x = enc y → x = y) {ad : Adr} {h : Heap} (k : κ) {kvs : List (K × Value)} {es : List (κ × AV)} (x : KVAll enc ad h kvs es) :
 match es.find? (fun e => decide (e.1 = k)) with
 | some e => ∃ v, valueAt kvs (enc k) = some v ∧ VIn ad h v e.2
 | none => valueAt kvs (enc k) = none := by
 induction x with
 | nil => rfl
 | @cons k' v a kvs es hv _ ih =>
  simp only [List.find?_cons]
  by_cases e : k' = k
  · subst e
    simp only [decide_true, valueAt, List.find?_cons]
    exact ⟨v, by simp, hv⟩
  · have e' : ¬ enc k' = enc k := fun q => e (inj _ _ q)
    simp only [decide_eq_false e]
    have z : valueAt ((enc k', v) :: kvs) (enc k) = valueAt kvs (enc k) := by simp [valueAt, List.find?_cons, e']
    rw [z]; exact ih
theorem KVAll.any {κ K : Type} [DecidableEq κ] [DecidableEq K] {enc : κ → K} (inj : ∀ x y, enc x = enc y → x = y) {ad : Adr} {h : Heap} (k : κ) {kvs : List (K × Value)} {es : List (κ × AV)} (x : KVAll enc ad h kvs es) :
 (valueAt kvs (enc k)).isSome = es.any (fun e => decide (e.1 = k)) := by
 have := x.find inj k
 cases q : es.find? (fun e => decide (e.1 = k)) with
 | none =>
  rw [q] at this
  rw [this]
  have := List.find?_eq_none.mp q
  symm
  simpa [List.any_eq_false] using this
 | some e =>
  rw [q] at this
  obtain ⟨v, h1, _⟩ := this
  rw [h1]
  symm
  exact List.any_eq_true.mpr ⟨e, List.mem_of_find?_eq_some q, List.find?_some (p := fun (e : κ × AV) => decide (e.1 = k)) q⟩
theorem plainIs_none (v : Value) (h : ∀ id, v ≠ .builtin id) : plainIs v .none = true := by
 cases v <;> first | rfl | exact absurd rfl (h _)
theorem VIn.notBuiltin {ad : Adr} {h : Heap} {v : Value} {a : AV} (x : VIn ad h v a) : ∀ id, v ≠ .builtin id := by
 intro id e; subst e; cases x
theorem VIn.isNone {ad : Adr} {h : Heap} {v : Value} {a : AV} (x : VIn ad h v a) : (v == Value.none) = isNone a := by
 cases x <;> first | rfl | (rw [beq_eq_false_iff_ne.mpr (by intro e; cases e)]; rfl)
theorem occ_one (c : Nat) (y : List Nat) : (!(Builtin.Str.occurrences ⟨y.toArray⟩ ⟨([c] : List Nat).toArray⟩ 0 (Str.length ⟨y.toArray⟩) 1).isEmpty) = decide (c ∈ y) := by
 have := StrLaws.found_one ⟨y.toArray⟩ c
 simpa using this
set_option tactic.hygienic true in
theorem cmp_rule {A : Around} {op : CmpOp} {a b : AV} {u v : Value} {L : Addr} {s : Shared} {ad : Adr} {fr : Frame} {σ : Store} {Q : Value → Shared → Prop} {E : Value → Shared → Prop} (ro : Room n A) (R : RF C nm L s.heap ad fr σ)
 (i₁ : VIn ad s.heap u a) (i₂ : VIn ad s.heap v b) (o : OutE C nm L s ad fr Q E (cmpF op a b σ)) : wpAny (model C.prog C.w) A (compareOp op u v) Q E s := by
 cases op
 · change OutE C nm L s ad fr Q E (cmpEq a b σ) at o
   unfold cmpEq at o
   split at o
   · obtain ⟨t, rfl⟩ := i₁.int_inv
     obtain ⟨t', rfl⟩ := i₂.int_inv
     exact eq_int (OutX.here o R .refl (by rw [show ∀ x y : Int, (x == y) = decide (x = y) from fun _ _ => rfl]; exact .bool _))
   · rename_i x y
     obtain ⟨t, rfl⟩ := i₁.str_inv
     obtain ⟨t', rfl⟩ := i₂.str_inv
     refine eq_str (OutX.here o R .refl ?_)
     have : ((⟨x.toArray⟩ : Str) == ⟨y.toArray⟩) = decide (x = y) := by rw [Bool.eq_iff_iff]; simp
     rw [this]; exact .bool _
   · rename_i x y
     split at o
     · rename_i hp
       obtain ⟨hx, hy⟩ := Bool.and_eq_true_iff.mp hp
       obtain ⟨as, ra⟩ := reads_of 120 i₁ hx
       obtain ⟨bs, rb⟩ := reads_of 120 i₂ hy
       have la := kqd_lay 120 _ hx
       have lb := kqd_lay 120 _ hy
       refine SeqAt.compareEq_reads ra rb la.1 lb.1 (room_eq ro la.2) (OutX.here o R .refl ?_)
       rw [eqv_dat hx hy, eqA_tup]; exact .bool _
     · exact o.elim
   · split at o
     · rename_i m k x y e1 e2
       split at o
       · rename_i hp
         obtain ⟨hx, hy⟩ := Bool.and_eq_true_iff.mp hp
         obtain ⟨p, hp, rfl⟩ := i₁.loc_inv
         obtain ⟨q, hq, rfl⟩ := i₂.loc_inv
         obtain ⟨vs, ka, g1, r1⟩ := R.st.list hp e1
         obtain ⟨us, kb, g2, r2⟩ := R.st.list hq e2
         obtain ⟨as, ra⟩ := reads_listOf g1 r1 hx
         obtain ⟨bs, rb⟩ := reads_listOf g2 r2 hy
         have la := lay_list hx
         have lb := lay_list hy
         refine SeqAt.compareEq_reads ra rb la.1 lb.1 (room_eq ro la.2) (OutX.here o R .refl ?_)
         rw [eqv_list hx hy]; exact .bool _
       · exact o.elim
     · exact o.elim
   · exact o.elim
 · change OutE C nm L s ad fr Q E (cmpNe a b σ) at o
   unfold cmpNe at o
   split at o
   · obtain ⟨t, rfl⟩ := i₁.int_inv
     obtain ⟨t', rfl⟩ := i₂.int_inv
     exact ne_int (OutX.here o R .refl (by rw [show ∀ x y : Int, (x != y) = !decide (x = y) from fun _ _ => rfl]; exact .bool _))
   · rename_i x y
     obtain ⟨t, rfl⟩ := i₁.str_inv
     obtain ⟨t', rfl⟩ := i₂.str_inv
     refine ne_str (OutX.here o R .refl ?_)
     have : ((⟨x.toArray⟩ : Str) == ⟨y.toArray⟩) = decide (x = y) := by rw [Bool.eq_iff_iff]; simp
     rw [bne, this]; exact .bool _
   · split at o
     · rename_i m k x y e1 e2
       split at o
       · rename_i hp
         obtain ⟨hx, hy⟩ := Bool.and_eq_true_iff.mp hp
         obtain ⟨p, hp, rfl⟩ := i₁.loc_inv
         obtain ⟨q, hq, rfl⟩ := i₂.loc_inv
         obtain ⟨vs, ka, g1, r1⟩ := R.st.list hp e1
         obtain ⟨us, kb, g2, r2⟩ := R.st.list hq e2
         obtain ⟨as, ra⟩ := reads_listOf g1 r1 hx
         obtain ⟨bs, rb⟩ := reads_listOf g2 r2 hy
         have la := lay_list hx
         have lb := lay_list hy
         refine SeqAt.compareNe_reads ra rb la.1 lb.1 (room_eq ro la.2) (OutX.here o R .refl ?_)
         rw [eqv_list hx hy]; exact .bool _
       · exact o.elim
     · exact o.elim
   · exact o.elim
 · change OutE C nm L s ad fr Q E (cmpI (fun i j => decide (i < j)) a b σ) at o
   unfold cmpI at o
   split at o
   · obtain ⟨t, rfl⟩ := i₁.int_inv
     obtain ⟨t', rfl⟩ := i₂.int_inv
     exact lt_int (OutX.here o R .refl (.bool _))
   · exact o.elim
 · change OutE C nm L s ad fr Q E (cmpI (fun i j => decide (i ≤ j)) a b σ) at o
   unfold cmpI at o
   split at o
   · obtain ⟨t, rfl⟩ := i₁.int_inv
     obtain ⟨t', rfl⟩ := i₂.int_inv
     exact le_int (OutX.here o R .refl (.bool _))
   · exact o.elim
 · change OutE C nm L s ad fr Q E (cmpI (fun i j => decide (j < i)) a b σ) at o
   unfold cmpI at o
   split at o
   · obtain ⟨t, rfl⟩ := i₁.int_inv
     obtain ⟨t', rfl⟩ := i₂.int_inv
     exact gt_int (OutX.here o R .refl (.bool _))
   · exact o.elim
 · change OutE C nm L s ad fr Q E (cmpI (fun i j => decide (j ≤ i)) a b σ) at o
   unfold cmpI at o
   split at o
   · obtain ⟨t, rfl⟩ := i₁.int_inv
     obtain ⟨t', rfl⟩ := i₂.int_inv
     exact ge_int (OutX.here o R .refl (.bool _))
   · exact o.elim
 · change OutE C nm L s ad fr Q E (cmpIs id a b σ) at o
   unfold cmpIs at o
   split at o
   · obtain rfl := i₂.none_inv
     refine wpAny_is_plain (plainIs_none _ i₁.notBuiltin) (OutX.here o R .refl ?_)
     rw [i₁.isNone]; exact .bool _
   · exact o.elim
 · change OutE C nm L s ad fr Q E (cmpIs not a b σ) at o
   unfold cmpIs at o
   split at o
   · obtain rfl := i₂.none_inv
     refine wpAny_isNot_plain (plainIs_none _ i₁.notBuiltin) (OutX.here o R .refl ?_)
     rw [i₁.isNone]; exact .bool _
   · exact o.elim
 · change OutE C nm L s ad fr Q E (cmpIn a b σ) at o
   unfold cmpIn at o
   split at o
   · obtain ⟨t, rfl⟩ := i₁.str_inv
     obtain ⟨t', rfl⟩ := i₂.str_inv
     refine PyProof.Rows.in_str (OutX.here o R .refl ?_)
     rw [occ_one]; exact .bool _
   · rename_i i _
     unfold cmpKey at o
     split at o
     · rename_i e
       obtain ⟨t, rfl⟩ := i₁.int_inv
       obtain ⟨p, hp, rfl⟩ := i₂.loc_inv
       obtain ⟨_, kvs, D, r⟩ := R.st.at hp e
       refine wpAny_in_of (intKind_is _ _ _ _) (R.st.notSys hp) D.mapOf (OutX.same o _ R ?_)
       rw [show (valueAt kvs i).isSome = _ from KVAll.any (enc := id) (fun _ _ q => q) i r]; exact .bool _
     · exact o.elim
   · exact o.elim
 · change OutE C nm L s ad fr Q E (cmpNotIn a b σ) at o
   unfold cmpNotIn at o
   split at o
   · rename_i i _
     unfold cmpKey at o
     split at o
     · rename_i e
       obtain ⟨t, rfl⟩ := i₁.int_inv
       obtain ⟨p, hp, rfl⟩ := i₂.loc_inv
       obtain ⟨_, kvs, D, r⟩ := R.st.at hp e
       refine wpAny_notIn_of (intKind_is _ _ _ _) (R.st.notSys hp) D.mapOf (OutX.same o _ R ?_)
       rw [show (valueAt kvs i).isSome = _ from KVAll.any (enc := id) (fun _ _ q => q) i r]; exact .bool _
     · exact o.elim
   · exact o.elim
theorem SndE.cmp {l r : Expr} {op : CmpOp} {d e : DE} {pos : Pos} (hm : behindInMarks op r = false) (hl : SndE C n sc nm l d) (hr : SndE C n sc nm r e) : SndE C n sc nm (.Compare l [op] [r] pos) (dCmp op d e) := by
 intro A qn L f cd cl s ad fr σ Q E ro R o
 refine wpAny_Compare1 (hl A qn L f cd cl s ad fr σ _ E ro R (OutX.bind o fun a σ₁ v h₁ t₁ ad₁ R₁ x₁ i₁ o => ?_)) hm
 refine hr A qn L f cd cl _ ad₁ fr σ₁ _ E ro R₁ (OutX.bind o fun b σ₂ u h₂ t₂ ad₂ R₂ x₂ i₂ o => ?_)
 exact cmp_rule ro.toRoom R₂ (x₂.val i₁) i₂ o
theorem truthy_rule {A : Around} {a : AV} {v : Value} {L : Addr} {s : Shared} {ad : Adr} {fr : Frame} {σ : Store} {Q : Bool → Shared → Prop} {E : Value → Shared → Prop} (R : RF C nm L s.heap ad fr σ)
 (i : VIn ad s.heap v a) (o : OutB C nm L s ad fr Q E (boolF a σ)) : wpAny (model C.prog C.w) A (truthy v) Q E s := by
 unfold boolF at o
 split at o
 · obtain rfl := i.bool_inv
   exact wpAny_truthy_bool (OutX.here o R .refl rfl)
 · exact o.elim
theorem SndB.cmp {l r : Expr} {op : CmpOp} {d e : DE} {pos : Pos} (hm : behindInMarks op r = false) (hl : SndE C n sc nm l d) (hr : SndE C n sc nm r e) : SndB C n sc nm (.Compare l [op] [r] pos) (bVal (dCmp op d e)) := by
 intro A qn L f cd cl s ad fr σ Q E ro R o
 unfold bVal dCmp at o
 refine wpAny_isTrue_Compare1 (hl A qn L f cd cl s ad fr σ _ E ro R (OutX.bind (k := fun a σ => ((e fr σ).bind fun b σ => cmpF op a b σ).bind boolF) (by
  have z : ((d fr σ).bind fun a σ => (e fr σ).bind fun b σ => cmpF op a b σ).bind boolF = (d fr σ).bind fun a σ => ((e fr σ).bind fun b σ => cmpF op a b σ).bind boolF := by cases d fr σ <;> rfl
  rw [z] at o; exact o) fun a σ₁ v h₁ t₁ ad₁ R₁ x₁ i₁ o => ?_)) hm
 refine hr A qn L f cd cl _ ad₁ fr σ₁ _ E ro R₁ (OutX.bind (k := fun b σ => (cmpF op a b σ).bind boolF) (by
  have z : ((e fr σ₁).bind fun b σ => cmpF op a b σ).bind boolF = (e fr σ₁).bind fun b σ => (cmpF op a b σ).bind boolF := by cases e fr σ₁ <;> rfl
  rw [z] at o; exact o) fun b σ₂ u h₂ t₂ ad₂ R₂ x₂ i₂ o => ?_)
 refine cmp_rule ro.toRoom R₂ (x₂.val i₁) i₂ (OutX.bind o fun c σ₃ v h₃ t₃ ad₃ R₃ x₃ i₃ o => ?_)
 exact truthy_rule R₃ i₃ o
theorem SndB.val {e : Expr} {d : DE} (he : SndE C n sc nm e d) (hp : ∀ env (whole : Sem Value), isTrue e env whole = (do let v ← whole; standAt e.pos; holding [v] (truthy v))) : SndB C n sc nm e (bVal d) := by
 intro A qn L f cd cl s ad fr σ Q E ro R o
 refine isTrue_plain (he A qn L f cd cl s ad fr σ _ E ro R (OutX.bind o fun a σ₁ v h₁ t₁ ad₁ R₁ x₁ i₁ o => ?_)) (hp _ _)
 exact truthy_rule R₁ i₁ o
theorem SndB.not {e : Expr} {d : DB} {pos : Pos} (he : SndB C n sc nm e d) : SndB C n sc nm (.UnaryOp .Not e pos) (bNot d) := by
 intro A qn L f cd cl s ad fr σ Q E ro R o
 refine PyProof.Rows.isTrue_not (he A qn L f cd cl s ad fr σ _ E ro R (OutX.bind o fun a σ₁ v h₁ t₁ ad₁ R₁ x₁ i₁ o => ?_))
 subst i₁
 exact OutX.here o R₁ .refl rfl
noncomputable def SndA (C : Ctx) (n : Nat) (sc : Scope) (nm : List Str) (op : BoolOp) (es : List Expr) (d : DB) : Prop :=
 ∀ (A : Around) (qn : Str) (L f : Addr) (cd : Value) (cl : List (Str × Addr)) (s : Shared) (ad : Adr) (fr : Frame) (σ : Store) (Q : Bool → Shared → Prop) (E : Value → Shared → Prop),
  RoomL C n A L cl → RF C nm L s.heap ad fr σ → OutB C nm L s ad fr Q E (d fr σ) → wpAny (model C.prog C.w) A (allTrue op es (envX qn sc L f cd cl)) Q E s
theorem SndA.and_nil : SndA C n sc nm .And [] (fun _ σ => .ok true σ) := by
 intro A qn L f cd cl s ad fr σ Q E ro R o
 exact wpAny_allTrue_And_nil (OutX.here o R .refl rfl)
theorem SndA.or_nil : SndA C n sc nm .Or [] (fun _ σ => .ok false σ) := by
 intro A qn L f cd cl s ad fr σ Q E ro R o
 exact wpAny_allTrue_Or_nil (OutX.here o R .refl rfl)
theorem SndA.and_cons {e : Expr} {es : List Expr} {d d' : DB} (he : SndB C n sc nm e d) (hs : SndA C n sc nm .And es d') : SndA C n sc nm .And (e :: es) (bAnd d d') := by
 intro A qn L f cd cl s ad fr σ Q E ro R o
 refine wpAny_allTrue_And_cons (he A qn L f cd cl s ad fr σ _ E ro R (OutX.bind o fun a σ₁ v h₁ t₁ ad₁ R₁ x₁ i₁ o => ?_))
 subst i₁
 cases v with
 | true => exact hs A qn L f cd cl _ ad₁ fr σ₁ Q E ro R₁ o
 | false => exact OutX.here o R₁ .refl rfl
theorem SndA.or_cons {e : Expr} {es : List Expr} {d d' : DB} (he : SndB C n sc nm e d) (hs : SndA C n sc nm .Or es d') : SndA C n sc nm .Or (e :: es) (bOr d d') := by
 intro A qn L f cd cl s ad fr σ Q E ro R o
 refine wpAny_allTrue_Or_cons (he A qn L f cd cl s ad fr σ _ E ro R (OutX.bind o fun a σ₁ v h₁ t₁ ad₁ R₁ x₁ i₁ o => ?_))
 subst i₁
 cases v with
 | true => exact OutX.here o R₁ .refl rfl
 | false => exact hs A qn L f cd cl _ ad₁ fr σ₁ Q E ro R₁ o
theorem SndB.bool {op : BoolOp} {es : List Expr} {d : DB} {pos : Pos} (h : SndA C n sc nm op es d) : SndB C n sc nm (.BoolOp op es pos) d := by
 intro A qn L f cd cl s ad fr σ Q E ro R o
 exact wpAny_isTrue_BoolOp (h A qn L f cd cl s ad fr σ Q E ro R o)
theorem SndE.and2 {x y : Expr} {d e : DE} {pos : Pos} (hx : SndE C n sc nm x d) (hy : SndE C n sc nm y e) : SndE C n sc nm (.BoolOp .And [x, y] pos) (dAnd d e) := by
 intro A qn L f cd cl s ad fr σ Q E ro R o
 refine wpAny_And2 (hx A qn L f cd cl s ad fr σ _ E ro R (OutX.bind o fun a σ₁ v h₁ t₁ ad₁ R₁ x₁ i₁ o => ?_))
 unfold boolF at o
 split at o
 · obtain rfl := i₁.bool_inv
   refine wpAny_truthy_bool ?_
   rename_i b
   cases b with
   | true => exact hy A qn L f cd cl _ ad₁ fr σ₁ Q E ro R₁ o
   | false => exact OutX.here o R₁ .refl (.bool _)
 · exact o.elim
theorem SndE.or2 {x y : Expr} {d e : DE} {pos : Pos} (hx : SndE C n sc nm x d) (hy : SndE C n sc nm y e) : SndE C n sc nm (.BoolOp .Or [x, y] pos) (dOr d e) := by
 intro A qn L f cd cl s ad fr σ Q E ro R o
 refine wpAny_Or2 (hx A qn L f cd cl s ad fr σ _ E ro R (OutX.bind o fun a σ₁ v h₁ t₁ ad₁ R₁ x₁ i₁ o => ?_))
 unfold boolF at o
 split at o
 · obtain rfl := i₁.bool_inv
   refine wpAny_truthy_bool ?_
   rename_i b
   cases b with
   | true => exact OutX.here o R₁ .refl (.bool _)
   | false => exact hy A qn L f cd cl _ ad₁ fr σ₁ Q E ro R₁ o
 · exact o.elim
theorem SndE.ifexp {c x y : Expr} {b : DB} {d e : DE} {pos : Pos} (hc : SndB C n sc nm c b) (hx : SndE C n sc nm x d) (hy : SndE C n sc nm y e) : SndE C n sc nm (.IfExp c x y pos) (dIf b d e) := by
 intro A qn L f cd cl s ad fr σ Q E ro R o
 refine wpAny_IfExp (hc A qn L f cd cl s ad fr σ _ E ro R (OutX.bind o fun a σ₁ v h₁ t₁ ad₁ R₁ x₁ i₁ o => ?_))
 subst i₁
 cases v with
 | true => exact hx A qn L f cd cl _ ad₁ fr σ₁ Q E ro R₁ o
 | false => exact hy A qn L f cd cl _ ad₁ fr σ₁ Q E ro R₁ o
end
end Mine
end
section
open PySem PySem.W PySem.Calls PyProof.Rows
namespace Mine
section
variable {C : Ctx} {n : Nat} {sc : Scope} {nm gn : List Str}
theorem VIn.handed {ad : Adr} {h : Heap} {v : Value} {a : AV} (x : VIn ad h v a) : handedIn v = true := by cases x <;> rfl
theorem isStr_attr {k j : Nat} {t : Tok} (hk : k < 28) (hj : j < 28) : (Value.str (attrName k) t).isStr (attrName j) = decide (k = j) := by
 show (attrName k == attrName j) = _
 rw [Bool.eq_iff_iff, beq_iff_eq, decide_eq_true_eq]
 exact ⟨attrName_inj k hk j hj, fun e => by rw [e]⟩
theorem FAll.get {c : Nat} {ad : Adr} {h : Heap} {des : List DictEntry} {fs : List (Nat × AV)} (x : FAll c ad h des fs) {k : Nat} (hk : k < 28) :
 match fs.lookup k with
 | some a => fld c k = true ∧ ∃ v, getL (attrName k) des = some (some v) ∧ VIn ad h v a
 | none => getL (attrName k) des = some none := by
 induction x with
 | nil => rfl
 | @cons e es k' t a fs he hl hv hr ih =>
  have q : e.key.isStr (attrName k) = decide (k' = k) := by rw [he]; exact isStr_attr (fld_lt hl) hk
  rw [List.lookup_cons]
  by_cases z : k = k'
  · subst z
    simp only [beq_self_eq_true]
    refine ⟨hl, e.val, ?_, hv⟩
    unfold getL
    rw [List.find?_cons, q]; simp
  · have z1 : (k == k') = false := beq_eq_false_iff_ne.mpr z
    have z2 : e.key.isStr (attrName k) = false := by rw [q]; exact decide_eq_false (Ne.symm z)
    simp only [z1]
    have same : getL (attrName k) (e :: es) = getL (attrName k) es := by
     unfold getL
     rw [List.find?_cons, z2]
     have r : e.refKey = false := by unfold DictEntry.refKey; rw [he]
     simp only [List.any_cons, r, Bool.false_or]
    rw [same]; exact ih
theorem attr_inst {C : Ctx} {ad : Adr} {σ : Store} {h : Heap} (S : SIn C ad σ h) {i c : Nat} {p : Addr × Addr} {fs : List (Nat × AV)} (hi : ad[i]? = some p) (ho : σ[i]? = some (.inst c fs)) :
 ∃ des m, W.InstAt h p.1 (instObj (C.cls c) p.2) (C.cls c) (some (dictOf des m)) ∧ h.get? p.2 = some (dictOf des m) ∧ FAll c ad h des fs := by
 obtain ⟨e, des, m, g, r⟩ := S.at hi ho
 exact ⟨des, m, ⟨e, rfl, rfl, g⟩, g, r⟩
theorem attr_exc {C : Ctx} {ad : Adr} {σ : Store} {h : Heap} (S : SIn C ad σ h) {i c : Nat} {raw : Bool} {p : Addr × Addr} {fs : List (Nat × AV)} (hi : ad[i]? = some p) (ho : σ[i]? = some (.exc raw c fs)) :
 ∃ des m ox, W.InstAt h p.1 ox (C.cls c) (some (dictOf des m)) ∧ h.get? p.2 = some (dictOf des m) ∧ FAll c ad h des fs := by
 obtain ⟨⟨vs, e, _⟩, des, m, g, r⟩ := S.at hi ho
 exact ⟨des, m, _, ⟨e, rfl, rfl, g⟩, g, r⟩
theorem fld_cls {c k : Nat} (h : fld c k = true) : c = 1 ∨ (c = 0 ∨ c = 2 ∨ c = 3) := by
 unfold fld at h
 split at h <;> simp_all
set_option tactic.hygienic true in
theorem getAttr_rule {A : Around} {k : Nat} {a : AV} {v : Value} {x : Bool} {L : Addr} {s : Shared} {ad : Adr} {fr : Frame} {σ : Store} {Q : Value → Shared → Prop} {E : Value → Shared → Prop} (hk : k < 28) (R : RF C nm L s.heap ad fr σ)
 (i : VIn ad s.heap v a) (o : OutE C nm L s ad fr Q E (attrF k a σ)) : wpAny (model C.prog C.w) A (getAttr v (attrName k) x) Q E s := by
 unfold attrF at o
 split at o
 · rename_i j
   obtain ⟨p, hp, rfl⟩ := i.loc_inv
   obtain ⟨m, F, _⟩ := R.fr
   split at o
   · rename_i c fs e
     split at o
     · exact o.elim
     · rename_i c1
       split at o
       · rename_i b hb
         obtain ⟨des, w, I, g, r⟩ := attr_inst R.st hp e
         have z := r.get hk
         rw [hb] at z
         obtain ⟨f1, u, h1, h2⟩ := z
         obtain ⟨attr, fa, fn⟩ := (C.fldOk c k f1).find
         have gd : plainGet C.K (C.cls c) (attrName k) = true ∧ hasDictIn C.K (C.cls c) = true := by
          rcases fld_cls f1 with rfl | q
          · exact absurd rfl c1
          · exact ⟨(C.clsOk c q).get _, (C.clsOk c q).dict⟩
         exact get_own F C.X I gd.1 gd.2 fa fn h1 h2.handed (OutX.same o _ R h2)
       · exact o.elim
   · exact o.elim
 · exact o.elim
theorem SndE.attr {e : Expr} {d : DE} {name : Str} {pos : Pos} (k : Nat) (hn : name = attrName k) (hk : k < 28) (hb : ∀ env (w : Sem Value), attributeBase e name env w = w) (he : SndE C n sc nm e d) :
 SndE C n sc nm (.Attribute e name pos) (dAttr k d) := by
 intro A qn L f cd cl s ad fr σ Q E ro R o
 subst hn
 refine Attribute_any_ (he A qn L f cd cl s ad fr σ _ E ro R (OutX.bind o fun a σ₁ v h₁ t₁ ad₁ R₁ x₁ i₁ o => ?_)) (by rw [arm_eval_Attribute, hb])
 exact getAttr_rule hk R₁ i₁ o
theorem seqIdx {i : Int} {l : Nat} (h0 : 0 ≤ i) (h1 : i.toNat < l) : seqIndex? i l = some i.toNat := by
 unfold seqIndex?
 have e : (if i < 0 then i + (l : Int) else i) = i := if_neg (by tb_rel)
 rw [e]
 simp only [Bool.and_eq_true, decide_eq_true_eq]
 rw [if_pos ⟨h0, by tb_rel⟩]
set_option tactic.hygienic true in
theorem item_rule {A : Around} {a b : AV} {u v : Value} {e1 e2 : Expr} {L : Addr} {s : Shared} {ad : Adr} {fr : Frame} {σ : Store} {Q : Value → Shared → Prop} {E : Value → Shared → Prop} (hs : ∀ o i, subscripted e2 false o i = operate [o, i] (getItem o i))
 (R : RF C nm L s.heap ad fr σ) (i₁ : VIn ad s.heap u a) (i₂ : VIn ad s.heap v b) (o : OutE C nm L s ad fr Q E (itemF a b σ)) : wpAny (model C.prog C.w) A (subscriptTail e1 e2 u v) Q E s := by
 unfold itemF at o
 split at o
 · rename_i j i
   obtain ⟨p, hp, rfl⟩ := i₁.loc_inv
   obtain ⟨t, rfl⟩ := i₂.int_inv
   split at o
   · rename_i xs e
     split at o
     · rename_i h0
       split at o
       · rename_i w hw
         split at o
         · rename_i hl
           obtain ⟨vs, k, g, r⟩ := R.st.list hp e
           obtain ⟨z, hz, iz⟩ := r.get hw
           have hlt := (List.getElem?_eq_some_iff.mp hw).1
           have hL : s.heap.IsList p.1 vs.toArray := ⟨_, g, rfl, _, rfl⟩
           refine tail_any hL.typeIs slot_list_getitem.lookup (wpAny_getItem_list hL h0 (by tb_rel) (by simpa using hz) (OutX.here o R .refl iz)) (hs _ _)
         · exact o.elim
       · exact o.elim
     · exact o.elim
   · rename_i es e
     split at o
     · rename_i en hen
       obtain ⟨_, kvs, D, r⟩ := R.st.at hp e
       have z := KVAll.find (enc := id) (fun _ _ q => q) i r
       rw [hen] at z
       obtain ⟨w, h1, h2⟩ := z
       exact tail_any D.typeIs slot_dict_getitem.lookup (wpAny_getItem_of (intKind_is _ _ _ _) D.mapOf h1 (OutX.same o _ R h2)) (hs _ _)
     · exact o.elim
   · exact o.elim
 · rename_i xs i
   split at o
   · rename_i h0
     split at o
     · rename_i w hw
       obtain ⟨b, vs, k, rfl, g, r⟩ := i₁.tup_inv
       obtain ⟨t, rfl⟩ := i₂.int_inv
       obtain ⟨z, hz, iz⟩ := r.get hw
       have hlt := (List.getElem?_eq_some_iff.mp hz).1
       exact item_tupleT ⟨_, g, rfl, _, rfl⟩ (by tb_rel) (by tb_rel) (seqIdx h0.1 hlt) hz (OutX.here o R .refl iz) (hs _ _)
     · exact o.elim
   · exact o.elim
 · rename_i xs i
   split at o
   · rename_i h0
     split at o
     · rename_i w hw
       obtain ⟨t, rfl⟩ := i₁.str_inv
       obtain ⟨t', rfl⟩ := i₂.int_inv
       have hlt := (List.getElem?_eq_some_iff.mp hw).1
       refine tail_any (typeIs_str _ _ _) slot_str_getitem.lookup (PyProof.Rows.getItem_str (c := w) (by simp; tb_rel) ?_ (OutX.same o _ R (.str [w] _))) (hs _ _)
       have l : Str.length ⟨xs.toArray⟩ = xs.length := by simp [Str.length]
       rw [l, seqIdx h0.1 hlt]
       simpa using hw
     · exact o.elim
   · exact o.elim
 · exact o.elim
theorem SndE.item {e1 e2 : Expr} {d d' : DE} {pos : Pos} (hs : ∀ o i, subscripted e2 false o i = operate [o, i] (getItem o i)) (h1 : SndE C n sc nm e1 d) (h2 : SndE C n sc nm e2 d') : SndE C n sc nm (.Subscript e1 e2 pos) (dItem d d') := by
 intro A qn L f cd cl s ad fr σ Q E ro R o
 refine Subscript_ (h1 A qn L f cd cl s ad fr σ _ E ro R (OutX.bind o fun a σ₁ v h₁ t₁ ad₁ R₁ x₁ i₁ o => ?_))
 refine h2 A qn L f cd cl _ ad₁ fr σ₁ _ E ro R₁ (OutX.bind o fun b σ₂ u h₂ t₂ ad₂ R₂ x₂ i₂ o => ?_)
 exact item_rule hs R₂ (x₂.val i₁) i₂ o
theorem SndL.nil : SndL C n sc nm [] LN where
 bare := fun _ _ => rfl
 sem := fun A qn L f cd cl pos s ad fr σ Q E ro R o => wpAny_items_nil (OutX.here o R .refl .nil)
theorem SndL.cons {e : Expr} {es : List Expr} {d : DE} {d' : DL} (hs : ∀ env, starEach (e :: es) env = (false, eval e env) :: starEach es env) (h1 : SndE C n sc nm e d) (h2 : SndL C n sc nm es d') : SndL C n sc nm (e :: es) (LC d d') where
 bare := fun env pos => by
  have := h2.bare env pos
  rw [hs]
  show (false || (backTo pos (starEach es env)).any (·.1)) = false
  rw [this]; rfl
 sem := fun A qn L f cd cl pos s ad fr σ Q E ro R o => by
  refine wpAny_items_cons (h1 A qn L f cd cl s ad fr σ _ E ro R (OutX.bind o fun a σ₁ v h₁ t₁ ad₁ R₁ x₁ i₁ o => ?_)) (hs _)
  refine h2.sem A qn L f cd cl pos _ ad₁ fr σ₁ _ E ro R₁ (OutX.bind o fun b σ₂ u h₂ t₂ ad₂ R₂ x₂ i₂ o => ?_)
  exact OutX.here o R₂ .refl (.cons (x₂.val i₁) i₂)
theorem RF.pushNew {L : Addr} {h : Heap} {ad : Adr} {fr : Frame} {σ : Store} (R : RF C nm L h ad fr σ) (ob : Obj) (hf : ob.isFreed = false) {ao : AO} (ho : (h.push ob).get? h.objs.size = some ob → OIn C (ad ++ [(h.objs.size, h.objs.size)]) (h.push ob) (h.objs.size, h.objs.size) ao) :
 RF C nm L (h.push ob) (ad ++ [(h.objs.size, h.objs.size)]) fr (σ ++ [ao]) ∧ Ext ad [L] h (ad ++ [(h.objs.size, h.objs.size)]) (h.push ob) :=
 ⟨R.add (push_keeps h ob) (push_new h) (push_new h) (ho (Heap.get?_push_size _ hf)), Ext.add (push_keeps h ob) (push_new h) (push_new h)⟩
theorem loc_new {L : Addr} {h h' : Heap} {ad : Adr} {fr : Frame} {σ : Store} (R : RF C nm L h ad fr σ) (p : Addr × Addr) : VIn (ad ++ [p]) h' (.ref p.1) (.loc σ.length) := .loc (by rw [← R.st.len]; simp)
theorem newTup_rule {A : Around} {as : List AV} {vs : List Value} {L : Addr} {s : Shared} {ad : Adr} {fr : Frame} {σ : Store} {Q : Value → Shared → Prop} {E : Value → Shared → Prop} (hl : as.length ≤ 1000) (R : RF C nm L s.heap ad fr σ)
 (i : VAll ad s.heap vs as) (o : OutE C nm L s ad fr Q E (.ok (.tup as) σ)) : wpAny (model C.prog C.w) A (newTuple vs) Q E s := by
 refine wpAny_newObj_type (OutX.here o (R.keeps (push_keeps _ _)) (Ext.keeps (push_keeps _ _)) ?_) (by
  have := i.length
  show vs.toArray.size ≤ sizeLine
  have : sizeLine = 16777216 := by decide
  rw [List.size_toArray]; tb_rel)
 exact .tup (Heap.get?_push_size _ rfl) (i.mono (fun _ _ e => e) fun _ _ _ e => push_keeps _ _ _ _ e)
theorem SndE.tup {es : List Expr} {d : DL} {k : Nat} {pos : Pos} (h : SndL C n sc nm es d) : SndE C n sc nm (.Tuple es k pos) (dTup d) := by
 intro A qn L f cd cl s ad fr σ Q E ro R o
 refine Tuple_ (h.sem A qn L f cd cl pos s ad fr σ _ E ro R (OutX.bind o fun a σ₁ v h₁ t₁ ad₁ R₁ x₁ i₁ o => ?_))
 split at o
 · rename_i hl
   exact newTup_rule hl R₁ i₁ o
 · exact o.elim
theorem newList_rule {A : Around} {as : List AV} {vs : List Value} {L : Addr} {s : Shared} {ad : Adr} {fr : Frame} {σ : Store} {Q : Value → Shared → Prop} {E : Value → Shared → Prop} (hl : as.length ≤ 1000) (R : RF C nm L s.heap ad fr σ)
 (i : VAll ad s.heap vs as) (o : OutE C nm L s ad fr Q E (.ok (.loc σ.length) (σ ++ [.list as]))) : wpAny (model C.prog C.w) A (newList vs) Q E s := by
 have z := R.pushNew { cls := .type "list", data := .seq vs.toArray } rfl (ao := .list as) fun g => ⟨rfl, vs, 0, g, i.mono idx_more fun _ _ _ e => push_keeps _ _ _ _ e⟩
 refine wpAny_newObj_type (OutX.here o z.1 z.2 (loc_new R (s.heap.objs.size, s.heap.objs.size))) (by
  have := i.length
  show vs.toArray.size ≤ sizeLine
  have : sizeLine = 16777216 := by decide
  rw [List.size_toArray]; tb_rel)
theorem SndE.list {es : List Expr} {d : DL} {pos : Pos} (h : SndL C n sc nm es d) : SndE C n sc nm (.List es pos) (dList d) := by
 intro A qn L f cd cl s ad fr σ Q E ro R o
 refine List_ (h.sem A qn L f cd cl pos s ad fr σ _ E ro R (OutX.bind o fun a σ₁ v h₁ t₁ ad₁ R₁ x₁ i₁ o => ?_))
 split at o
 · rename_i hl
   exact newList_rule hl R₁ i₁ o
 · exact o.elim
end
end Mine
end
section
open PySem PySem.W PySem.Calls PyProof.Rows
namespace Mine
noncomputable def OutF (C : Ctx) (s : Shared) (ad : Adr) (R : Result → Shared → Prop) (r : Res AV) : Prop := match r with
 | .ok a σ' => ∀ v h t ad', SIn C ad' σ' h → Ext ad [] s.heap ad' h → VIn ad' h v a → R (.ok (.ret v)) { s with heap := h, toks := t }
 | _ => False
noncomputable def Res.calm {α : Type} (r : Res α) : Res α := match r with
 | .exc _ _ => .stuck
 | r => r
noncomputable abbrev Spec := List AV → Store → Res AV
noncomputable def FnSnd (C : Ctx) (n : Nat) (f : Value) (spec : Spec) : Prop :=
 ∀ (A : Around) (s : Shared) (ad : Adr) (σ : Store) (vs : List Value) (avs : List AV) (R : Result → Shared → Prop),
  Room n A → SIn C ad σ s.heap → C.h₀.objs.size ≤ s.heap.objs.size → VAll ad s.heap vs avs → OutF C s ad R (spec avs σ) → codeAny (model C.prog C.w) A (.call f ⟨vs, []⟩) R s
section
variable {C : Ctx} {n : Nat} {sc : Scope} {nm gn : List Str}
theorem Room.le {n m : Nat} {A : Around} (r : Room n A) (h : m ≤ n) : Room m A := ⟨by have := r.depth; tb_rel, by have := r.units; tb_rel, fun q => r.quiet (by tb_rel)⟩
theorem evalArgs_bare {M : Model} {A : Around} {E : Value → Shared → Prop} {s : Shared} {f : Value} {l : List (Bool × Sem Value)} {Q : Args → Shared → Prop} (hb : l.any (·.1) = false)
 (h : wpAny M A (spliced l) (fun vs s' => Q ⟨vs, []⟩ s') E s) : wpAny M A (evalArgs f true l []) Q E s := by
 cases l with
 | nil =>
  unfold evalArgs
  show wpAny M A (spliced [] >>= _) Q E s
  refine wpAny_bind (wpAny_mono h (fun vs s' h' => ?_) fun _ _ x => x)
  refine wpAny_bind (wpAny_pure (wpAny_holding ?_))
  exact wpAny_bind (wpAny_pure (wpAny_bind (wpAny_pure (wpAny_pure h'))))
 | cons x r =>
  obtain ⟨b, t⟩ := x
  simp only [List.any_cons, Bool.or_eq_false_iff] at hb
  have : b = false := hb.1
  subst this
  exact evalArgs_plain h
noncomputable def KeepOk (C : Ctx) (f : Value) : Prop := ∀ h, C.K.In h → ∃ k, (k = Keeper.frame ∨ k = Keeper.machine ∨ k = Keeper.boundFrame) ∧ Looks (model C.prog C.w) h (keeperOf f) k
theorem KeepOk.of_K {f : Value} (h : keepIn C.K f = true) : KeepOk C f := fun hh X => keeps_K h hh X
theorem KeepOk.builtin {id : String} : KeepOk C (.builtin id) := fun h X => ⟨.machine, .inr (.inl rfl), Looks.of_pure rfl⟩
theorem KeepOk.type {id : String} : KeepOk C (.type id) := fun h X => ⟨.machine, .inr (.inl rfl), Looks.of_pure rfl⟩
theorem SIn.inK {ad : Adr} {σ : Store} {h : Heap} (S : SIn C ad σ h) : C.K.In h := C.X.keeps S.keep
theorem callWith_snd {A : Around} {f : Value} {first : List Value} {es : List Expr} {d : DL} {pos : Pos} {qn : Str} {L fa : Addr} {cd : Value} {cl : List (Str × Addr)} {s : Shared} {ad : Adr} {fr : Frame} {σ : Store}
 {Q : Value → Shared → Prop} {E : Value → Shared → Prop} {k : List AV → Store → Res AV} (hk : KeepOk C f) (hl : SndL C n sc nm es d) (ro : RoomL C n A L cl) (R : RF C nm L s.heap ad fr σ) (o : OutE C nm L s ad fr Q E ((d fr σ).bind k))
 (hc : ∀ as σ' vs h₁ t₁ ad₁, RF C nm L h₁ ad₁ fr σ' → Ext ad [L] s.heap ad₁ h₁ → VAll ad₁ h₁ vs as → OutE C nm L { s with heap := h₁, toks := t₁ } ad₁ fr Q E (k as σ') → wpAny (model C.prog C.w) A (call f (first ++ vs)) Q E { s with heap := h₁, toks := t₁ }) :
 wpAny (model C.prog C.w) A (callWith pos f first (backTo pos (starEach es (envX qn sc L fa cd cl))) []) Q E s := by
 refine callWith_of (P := C.K.In) (by rw [hl.bare]; rfl) hk (evalArgs_bare (hl.bare _ _) (hl.sem A qn L fa cd cl pos s ad fr σ _ E ro R (OutX.bind o fun as σ' vs h₁ t₁ ad₁ R₁ x₁ i₁ o => ?_)))
 exact ⟨R₁.st.inK, hc as σ' vs h₁ t₁ ad₁ R₁ x₁ i₁ o⟩
theorem RF.size {L : Addr} {h : Heap} {ad : Adr} {fr : Frame} {σ : Store} (R : RF C nm L h ad fr σ) : C.h₀.objs.size ≤ h.objs.size := by
 obtain ⟨m, F, _⟩ := R.fr
 obtain ⟨oL, _, _, hL, _⟩ := id F.ns
 exact Nat.le_trans F.above (Nat.le_of_lt (Heap.lt_size hL))
theorem call_snd {A : Around} {f : Value} {spec : Spec} {m : Nat} {vs : List Value} {as : List AV} {L : Addr} {s : Shared} {ad : Adr} {fr : Frame} {σ : Store} {Q : Value → Shared → Prop} {E : Value → Shared → Prop}
 (hf : FnSnd C m f spec) (ro : Room m A) (R : RF C nm L s.heap ad fr σ) (i : VAll ad s.heap vs as) (o : OutE C nm L s ad fr Q E (spec as σ).calm) : wpAny (model C.prog C.w) A (call f vs) Q E s := by
 refine wpAny_call (hf A s ad σ vs as _ ro R.st R.size i ?_)
 generalize spec as σ = r at o
 cases r with
 | ok a σ' => exact fun v h t ad' S x i => o v h t ad' (R.of_ext x S) x.weaken i
 | exc a σ' => exact o
 | stuck => exact o
noncomputable def dCall (spec : Spec) (d : DL) : DE := fun fr σ => (d fr σ).bind spec
noncomputable def dFn (spec : Spec) (d : DL) : DE := fun fr σ => (d fr σ).bind fun as σ => (spec as σ).calm
theorem SndE.callFn (S : FnS sc nm gn) {x : Str} {f : Value} {np pos : Pos} {es : List Expr} {d : DL} {spec : Spec} {m : Nat} (j : Nat) (hx : gn[j]? = some x) (hv : C.mg x = some f) (hk : KeepOk C f) (hf : FnSnd C m f spec) (hm : m ≤ n)
 (hl : SndL C n sc nm es d) : SndE C n sc nm (.Call (.Name x np) es [] pos) (dFn spec d) := by
 intro A qn L fa cd cl s ad fr σ Q E ro R o
 obtain ⟨mm, F, _⟩ := id R.fr
 have mem : x ∈ gn := List.mem_of_getElem? hx
 refine wpAny_Call_NameR (Name_function_global S.kind (S.glob x mem) (loadGlobal_global (env := envX qn sc L fa cd cl) (C.T.g.keeps F.keep) hv ?_) (S.debug x (List.mem_append_right _ mem)))
 exact callWith_snd hk hl ro R o fun as σ' vs h₁ t₁ ad₁ R₁ x₁ i₁ o => call_snd hf (ro.le hm) R₁ i₁ o
noncomputable def BiSnd (C : Ctx) (n : Nat) (id : String) (spec : Spec) : Prop :=
 ∀ (nm : List Str) (A : Around) (L : Addr) (s : Shared) (ad : Adr) (fr : Frame) (σ : Store) (vs : List Value) (as : List AV) (Q : Value → Shared → Prop) (E : Value → Shared → Prop),
  Room n A → RF C nm L s.heap ad fr σ → VAll ad s.heap vs as → OutE C nm L s ad fr Q E (spec as σ) → wpAny (model C.prog C.w) A (call (.builtin id) vs) Q E s
theorem SndE.callBi (S : FnS sc nm gn) {x : Str} {bi : String} {np pos : Pos} {es : List Expr} {d : DL} {spec : Spec} (j : Nat) (hx : gn[j]? = some x) (h0 : C.mg x = none) (hb : bootBuiltins x = some (.builtin bi)) (hn : x ≠ "__name__")
 (hf : BiSnd C n bi spec) (hl : SndL C n sc nm es d) : SndE C n sc nm (.Call (.Name x np) es [] pos) (dCall spec d) := by
 intro A qn L fa cd cl s ad fr σ Q E ro R o
 obtain ⟨mm, F, _⟩ := id R.fr
 have mem : x ∈ gn := List.mem_of_getElem? hx
 refine wpAny_Call_NameR (Name_function_global S.kind (S.glob x mem) (loadGlobal_builtin (env := envX qn sc L fa cd cl) (C.T.g.keeps F.keep) h0 (C.T.b.keeps F.keep) ((C.T.builtins x hn).trans hb) ?_) (S.debug x (List.mem_append_right _ mem)))
 exact callWith_snd KeepOk.builtin hl ro R o fun as σ' vs h₁ t₁ ad₁ R₁ x₁ i₁ o => hf nm A L _ ad₁ fr σ' vs as Q E ro.toRoom R₁ i₁ o
theorem wpAny_methodCall {M : Model} {A : Around} {E : Value → Shared → Prop} {s : Shared} {env : Env} {o : Expr} {name : Str} {apos pos : Pos} {args : List Expr} {Q : Value → Shared → Prop}
 (hb : ∀ env (w : Sem Value), attributeBase o name env w = w) (hbare : (backTo pos (starEach args env)).any (·.1) = false) (hlen : args.length < 30) (hline : (apos.endLine == pos.line) = true)
 (h : wpAny M A (eval o env) (fun ov s₁ => wpAny M A (getMethod ov name (do return (← importBound o env).getD true)) (fun fs s₂ => wpAny M A (callWith pos fs.1 fs.2 (backTo pos (starEach args env)) []) Q E s₂) E s₁) E s) :
 wpAny M A (eval (.Call (.Attribute o name apos) args [] pos) env) Q E s := by
 have hform : methodCallForm (args.length + ([] : List Keyword).length) (backTo pos (starEach args env)) (backToKw pos (keywordEach [] env)) = true := by
  have e : (backTo pos (starEach args env)).all (!·.1) = true := by
   rw [← Bool.not_eq_false, ← Bool.not_eq_true]
   intro q
   rw [List.all_eq_true] at q
   rw [List.any_eq_false] at hbare
   exact q fun x hx => by simpa using hbare x hx
  unfold methodCallForm
  rw [e]
  simp only [keywordEach, backToKw, List.length_nil, Nat.add_zero, List.map_nil, List.all_nil, Bool.true_and, List.isEmpty_nil, if_true, decide_eq_true_eq]
  exact hlen
 have hpos : methodCallPos true o env apos pos = pure pos := by unfold methodCallPos; simp [hline]
 show wpAny M A (do
  let ov ← attributeBase o name env (eval o env)
  standAt apos.atName
  methodCall o name apos pos env ov (args.length + ([] : List Keyword).length) (backTo pos (starEach args env)) (backToKw pos (keywordEach [] env))) Q E s
 rw [hb]
 refine wpAny_bind (wpAny_mono h (fun ov s₁ h₁ => wpAny_bind (wpAny_standAt ?_)) fun _ _ e => e)
 unfold methodCall
 rw [hform, hpos]
 refine wpAny_bind (wpAny_holding ?_)
 show wpAny M A (getMethod ov name (do return (← importBound o env).getD true)) _ E s₁
 refine wpAny_mono h₁ (fun fs s₂ h₂ => ?_) fun _ _ e => e
 exact wpAny_bind (wpAny_pure h₂)
noncomputable def dMeth (c : Nat) (spec : Spec) (d : DE) (l : DL) : DE := fun fr σ => (d fr σ).bind fun a σ => match a with
 | .loc k => (match σ[k]? with
  | some (.inst c' _) => if c' = c then (l fr σ).bind fun as σ => (spec (.loc k :: as) σ).calm else .stuck
  | _ => .stuck)
 | _ => .stuck
theorem FAll.none {c : Nat} {ad : Adr} {h : Heap} {name : Str} (hn : ∀ k, k < 28 → attrName k ≠ name) {des : List DictEntry} {fs : List (Nat × AV)} (x : FAll c ad h des fs) : getL name des = some Option.none := by
 induction x with
 | nil => rfl
 | @cons e es k t a fs he hl hv hr ih =>
  have q : e.key.isStr name = false := by
   rw [he]
   show (attrName k == name) = false
   exact beq_eq_false_iff_ne.mpr (hn k (fld_lt hl))
  have same : getL name (e :: es) = getL name es := by
   unfold getL
   rw [List.find?_cons, q]
   have r : e.refKey = false := by unfold DictEntry.refKey; rw [he]
   simp only [List.any_cons, r, Bool.false_or]
  rw [same]; exact ih
set_option tactic.hygienic true in
theorem SndE.meth {ob : Expr} {name : Str} {apos pos : Pos} {args : List Expr} {d : DE} {l : DL} {spec : Spec} {m c : Nat} {f : Addr} (hc : c = 0 ∨ c = 2 ∨ c = 3)
 (hb : ∀ env (w : Sem Value), attributeBase ob name env w = w) (hlen : args.length < 30) (hline : (apos.endLine == pos.line) = true)
 (hf : findIn C.K (.ref (C.cls c)) name = some (some (.ref f))) (ht : isFn C.K (.ref f) = true) (hn : ∀ k, k < 28 → attrName k ≠ name) (hk : keepIn C.K (.ref f) = true)
 (hs : FnSnd C m (.ref f) spec) (hm : m ≤ n) (ho : SndE C n sc nm ob d) (hl : SndL C n sc nm args l) : SndE C n sc nm (.Call (.Attribute ob name apos) args [] pos) (dMeth c spec d l) := by
 intro A qn L fa cd cl s ad fr σ Q E ro R o
 refine wpAny_methodCall hb (hl.bare _ _) hlen hline (ho A qn L fa cd cl s ad fr σ _ E ro R (OutX.bind o fun a σ₁ v h₁ t₁ ad₁ R₁ x₁ i₁ o' => ?_))
 clear o
 split at o'
 · rename_i j
   split at o'
   · rename_i c' fs e
     split at o'
     · rename_i ec
       subst ec
       obtain ⟨p, hp, rfl⟩ := i₁.loc_inv
       obtain ⟨mm, F, _⟩ := id R₁.fr
       obtain ⟨des, w, I, g, r⟩ := attr_inst R₁.st hp e
       refine method_inst F C.X I ((C.clsOk _ hc).get name) hf ht (r.none hn) ?_
       refine callWith_snd (KeepOk.of_K hk) hl ro R₁ o' fun as σ' vs h₂ t₂ ad₂ R₂ x₂ i₂ o => ?_
       exact call_snd hs (ro.le hm) R₂ (.cons (x₂.val i₁) i₂) o
     · exact o'.elim
   · exact o'.elim
 · exact o'.elim
end
end Mine
end
section
open PySem PySem.W PySem.Calls PyProof.Rows
namespace Mine
inductive Fl where
 | next | brk | cont
 | ret (a : AV)
inductive SRes where
 | ok (f : Fl) (fr : Frame) (σ : Store)
 | exc (e : AV) (fr : Frame) (σ : Store)
 | stuck
noncomputable abbrev DS := Frame → Store → SRes
noncomputable def FlIn (ad : Adr) (h : Heap) : Flow → Fl → Prop
 | .next, .next => True
 | .brk, .brk => True
 | .cont, .cont => True
 | .ret v, .ret a => VIn ad h v a
 | _, _ => False
noncomputable def OutS (C : Ctx) (nm : List Str) (L : Addr) (s : Shared) (ad : Adr) (Q : Flow → Shared → Prop) (E : Value → Shared → Prop) (r : SRes) : Prop := match r with
 | .ok fl fr' σ' => ∀ f h t ad', RF C nm L h ad' fr' σ' → Ext ad [L] s.heap ad' h → FlIn ad' h f fl → Q f { s with heap := h, toks := t }
 | .exc a fr' σ' => ∀ v h t ad', RF C nm L h ad' fr' σ' → Ext ad [L] s.heap ad' h → VIn ad' h v a → E v { s with heap := h, toks := t }
 | .stuck => False
noncomputable def Res.then_ {α : Type} (r : Res α) (fr : Frame) (k : α → Store → SRes) : SRes := match r with
 | .ok a σ => k a σ
 | .exc e σ => .exc e fr σ
 | .stuck => .stuck
@[simp] theorem Res.then_ok {α : Type} (a : α) (σ : Store) (fr : Frame) (k : α → Store → SRes) : (Res.ok a σ).then_ fr k = k a σ := rfl
noncomputable def SndT (C : Ctx) (n : Nat) (sc : Scope) (nm : List Str) (st : Stmt) (d : DS) : Prop :=
 ∀ (A : Around) (qn : Str) (L f : Addr) (cd : Value) (cl : List (Str × Addr)) (s : Shared) (ad : Adr) (fr : Frame) (σ : Store) (Q : Flow → Shared → Prop) (E : Value → Shared → Prop),
  RoomL C n A L cl → RF C nm L s.heap ad fr σ → OutS C nm L s ad Q E (d fr σ) → wpAny (model C.prog C.w) A (exec st (envX qn sc L f cd cl)) Q E s
noncomputable def SndS (C : Ctx) (n : Nat) (sc : Scope) (nm : List Str) (st : List Stmt) (d : DS) : Prop :=
 ∀ (A : Around) (qn : Str) (L f : Addr) (cd : Value) (cl : List (Str × Addr)) (s : Shared) (ad : Adr) (fr : Frame) (σ : Store) (Q : Flow → Shared → Prop) (E : Value → Shared → Prop),
  RoomL C n A L cl → RF C nm L s.heap ad fr σ → OutS C nm L s ad Q E (d fr σ) → wpAny (model C.prog C.w) A (execs st (envX qn sc L f cd cl)) Q E s
noncomputable abbrev GRes := Option (Frame × Store)
noncomputable def OutG (C : Ctx) (nm : List Str) (L : Addr) (s : Shared) (ad : Adr) (Q : Unit → Shared → Prop) (r : GRes) : Prop := match r with
 | some p => ∀ h t ad', RF C nm L h ad' p.1 p.2 → Ext ad [L] s.heap ad' h → Q () { s with heap := h, toks := t }
 | none => False
noncomputable def GRes.on (r : GRes) : SRes := match r with
 | some p => .ok .next p.1 p.2
 | none => .stuck
theorem OutS.toG {C : Ctx} {nm : List Str} {L : Addr} {s : Shared} {ad : Adr} {Q : Flow → Shared → Prop} {E : Value → Shared → Prop} {r : GRes} (o : OutS C nm L s ad Q E (GRes.on r)) : OutG C nm L s ad (fun _ => Q .next) r := by
 cases r with
 | none => exact o
 | some p => exact fun h t ad' R x => o .next h t ad' R x trivial
theorem OutG.rebase {C : Ctx} {nm : List Str} {L : Addr} {s : Shared} {ad ad₁ : Adr} {h₁ : Heap} {t₁ : Nat} {Q : Unit → Shared → Prop} {r : GRes} (o : OutG C nm L s ad Q r) (x : Ext ad [L] s.heap ad₁ h₁) : OutG C nm L { s with heap := h₁, toks := t₁ } ad₁ Q r := by
 cases r with
 | none => exact o
 | some p => exact fun h t ad' R y => o h t ad' R (x.trans y)
noncomputable def SndG (C : Ctx) (n : Nat) (sc : Scope) (nm : List Str) (e : Expr) (d : AV → Frame → Store → GRes) : Prop :=
 ∀ (A : Around) (qn : Str) (L f : Addr) (cd : Value) (cl : List (Str × Addr)) (s : Shared) (ad : Adr) (fr : Frame) (σ : Store) (v : Value) (a : AV) (Q : Unit → Shared → Prop) (E : Value → Shared → Prop),
  RoomL C n A L cl → RF C nm L s.heap ad fr σ → VIn ad s.heap v a → OutG C nm L s ad Q (d a fr σ) → wpAny (model C.prog C.w) A (assign e (envX qn sc L f cd cl) v) Q E s
section
variable {C : Ctx} {n : Nat} {sc : Scope} {nm gn : List Str} {L : Addr} {s : Shared} {ad ad₁ : Adr} {fr : Frame} {σ : Store} {Q : Flow → Shared → Prop} {E : Value → Shared → Prop} {h₁ : Heap} {t₁ : Nat}
theorem OutS.rebase {r : SRes} (o : OutS C nm L s ad Q E r) (x : Ext ad [L] s.heap ad₁ h₁) : OutS C nm L { s with heap := h₁, toks := t₁ } ad₁ Q E r := by
 cases r with
 | ok a fr' σ' => exact fun v h t ad' R y i => o v h t ad' R (x.trans y) i
 | exc a fr' σ' => exact fun v h t ad' R y i => o v h t ad' R (x.trans y) i
 | stuck => exact o
theorem OutS.then_ {α β : Type} {I : Adr → Heap → β → α → Prop} {Q' : β → Shared → Prop} {r : Res α} {k : α → Store → SRes} (o : OutS C nm L s ad Q E (r.then_ fr k))
 (hQ : ∀ a σ' v h₁ t₁ ad₁, RF C nm L h₁ ad₁ fr σ' → Ext ad [L] s.heap ad₁ h₁ → I ad₁ h₁ v a → OutS C nm L { s with heap := h₁, toks := t₁ } ad₁ Q E (k a σ') → Q' v { s with heap := h₁, toks := t₁ }) :
 OutX C nm L s ad fr I Q' E r := by
 cases r with
 | ok a σ' => exact fun v h t ad' R y i => hQ a σ' v h t ad' R y i (OutS.rebase (r := k a σ') o y)
 | exc a σ' => exact o
 | stuck => exact o
theorem OutS.here {f : Flow} {fl : Fl} (o : OutS C nm L s ad Q E (.ok fl fr σ)) {h : Heap} {t : Nat} {ad' : Adr} (R : RF C nm L h ad' fr σ) (x : Ext ad [L] s.heap ad' h) (i : FlIn ad' h f fl) : Q f { s with heap := h, toks := t } := o f h t ad' R x i
theorem OutS.same {f : Flow} {fl : Fl} (o : OutS C nm L s ad Q E (.ok fl fr σ)) (t : Nat) (R : RF C nm L s.heap ad fr σ) (i : FlIn ad s.heap f fl) : Q f { s with toks := t } := o f s.heap t ad R .refl i
noncomputable def SRes.andThen (r : SRes) (k : DS) : SRes := match r with
 | .ok .next fr σ => k fr σ
 | r => r
noncomputable def SQ (a b : DS) : DS := fun fr σ => (a fr σ).andThen b
noncomputable def SN : DS := fun fr σ => .ok .next fr σ
theorem SndS.nil : SndS C n sc nm [] SN := by
 intro A qn L f cd cl s ad fr σ Q E ro R o
 exact wpAny_execs_nil (OutS.here o R .refl trivial)
theorem OutS.seq {r : SRes} {k : DS} (o : OutS C nm L s ad Q E (r.andThen k)) {Q' : Flow → Shared → Prop}
 (hn : ∀ fr' σ' h₁ t₁ ad₁, RF C nm L h₁ ad₁ fr' σ' → Ext ad [L] s.heap ad₁ h₁ → OutS C nm L { s with heap := h₁, toks := t₁ } ad₁ Q E (k fr' σ') → Q' .next { s with heap := h₁, toks := t₁ })
 (ho : ∀ f s', f ≠ .next → Q f s' → Q' f s') : OutS C nm L s ad Q' E r := by
 cases r with
 | ok fl fr' σ' =>
  intro f h t ad' R y i
  cases fl with
  | next =>
   cases f <;> first | exact i.elim | skip
   exact hn fr' σ' h t ad' R y (OutS.rebase (r := k fr' σ') o y)
  | brk => cases f <;> first | exact i.elim | (exact ho _ _ (by simp) (o _ h t ad' R y i))
  | cont => cases f <;> first | exact i.elim | (exact ho _ _ (by simp) (o _ h t ad' R y i))
  | ret a => cases f <;> first | exact i.elim | (exact ho _ _ (by simp) (o _ h t ad' R y i))
 | exc a fr' σ' => exact o
 | stuck => exact o
theorem SndS.cons {st : Stmt} {rest : List Stmt} {d e : DS} (h1 : SndT C n sc nm st d) (h2 : SndS C n sc nm rest e) : SndS C n sc nm (st :: rest) (SQ d e) := by
 intro A qn L f cd cl s ad fr σ Q E ro R o
 refine wpAny_execs_cons (h1 A qn L f cd cl s ad fr σ _ E ro R (OutS.seq o (fun fr' σ' h₁ t₁ ad₁ R₁ x₁ o => ?_) fun f s' hf q => ?_))
 · exact h2 A qn L _ cd cl _ ad₁ fr' σ' Q E ro R₁ o
 · cases f <;> first | exact q | exact absurd rfl hf
theorem storeName_rule (S : FnS sc nm gn) {A : Around} {qn : Str} {f : Addr} {cd : Value} {cl : List (Str × Addr)} {i : Nat} {x : Str} {v : Value} {a : AV} {Q : Unit → Shared → Prop} (hx : nm[i]? = some x) (R : RF C nm L s.heap ad fr σ) (hv : VIn ad s.heap v a)
 (h : ∀ h' t, RF C nm L h' ad (fr.set i (some a)) σ → Ext ad [L] s.heap ad h' → Q () { s with heap := h', toks := t }) : wpAny (model C.prog C.w) A (storeName (envX qn sc L f cd cl) x v) Q E s := by
 obtain ⟨m, F, hm⟩ := R.fr
 have mem : x ∈ nm := List.mem_of_getElem? hx
 refine wpAny_storeName_local (S.loc x mem) F.ns (fun h' hn hs => ?_) (by show (sc.kind == .class || (sc.kind == .module && L != mainGlobals)) = false; rw [S.kind]; rfl)
 have F' := F.set hn hs
 have k : ∀ b o, s.heap.get? b = some o → b ≠ L → h'.get? b = some o := fun b o e hb => (hs.2 b hb).trans e
 obtain ⟨oL, es, ep, hL, hLd, _⟩ := id F.ns
 obtain ⟨oL', es', ep', hL', hLd', _⟩ := id F'.ns
 have x' : Ext ad [L] s.heap ad h' := ⟨⟨[], (List.append_nil _).symm, fun _ hp => nomatch hp⟩, fun b o e _ hb => k b o e (by simpa using hb), fun b vs n e => k b _ e (fun q => by
  subst q; rw [hL] at e; cases e; cases hLd), fun b o e => by
  by_cases q : b = L
  · subst q; exact ⟨_, hL'⟩
  · exact ⟨o, k b o e q⟩⟩
 have nt : ∀ (i : Nat) (p : Addr × Addr), ad[i]? = some p → p.1 ≠ L ∧ p.2 ≠ L := fun i p e => ⟨fun q => R.off ⟨p, List.mem_of_getElem? e, .inl q.symm⟩, fun q => R.off ⟨p, List.mem_of_getElem? e, .inr q.symm⟩⟩
 refine h h' _ ⟨⟨R.st.len, fun i p o e1 e2 => (R.st.obj i p o e1 e2).mono (fun _ _ e => e) x'.tups (fun o e => k _ o e (nt i p e1).1) fun o e => k _ o e (nt i p e1).2, R.st.apart, R.st.new, F'.keep, R.st.pin⟩, ⟨_, F', fun j av e => ?_⟩, R.off⟩ x'
 by_cases ij : i = j
 · subst ij
   have li : i < fr.length := by
    have := (List.getElem?_eq_some_iff.mp e).1
    simpa using this
   rw [List.getElem?_set_self li] at e
   cases e
   exact ⟨x, v, hx, by simp, x'.val hv⟩
 · rw [List.getElem?_set_ne ij] at e
   obtain ⟨y, u, h1, h2, h3⟩ := hm j av e
   refine ⟨y, u, h1, ?_, x'.val h3⟩
   have ne : y ≠ x := by
    rintro rfl
    have lj := (List.getElem?_eq_some_iff.mp h1).1
    have li := (List.getElem?_eq_some_iff.mp hx).1
    exact ij ((List.getElem?_inj li S.nodup).mp (hx.trans h1.symm))
   rw [if_neg ne]; exact h2
noncomputable def gName (i : Nat) : AV → Frame → Store → GRes := fun a fr σ => some (fr.set i (some a), σ)
theorem SndG.name (S : FnS sc nm gn) {x : Str} {pos : Pos} (i : Nat) (hx : nm[i]? = some x) : SndG C n sc nm (.Name x pos) (gName i) := by
 intro A qn L f cd cl s ad fr σ v a Q E ro R i o
 refine wpAny_assign_Name (storeName_rule S hx R i fun h' t R' x' => o h' t ad R' x')
noncomputable def QA (i : Nat) (d : DE) : DS := fun fr σ => (d fr σ).then_ fr fun a σ => .ok .next (fr.set i (some a)) σ
theorem SndT.assign (S : FnS sc nm gn) {x : Str} {e : Expr} {p pos : Pos} {d : DE} (i : Nat) (hx : nm[i]? = some x) (hs : ∀ env, swapsWith e (some (.Name x p)) pos.line env = pure false) (he : SndE C n sc nm e d) :
 SndT C n sc nm (.Assign [.Name x p] e pos) (QA i d) := by
 intro A qn L f cd cl s ad fr σ Q E ro R o
 refine wpAny_Assign_Name (he A qn L f cd cl s ad fr σ _ E ro R (OutS.then_ o fun a σ₁ v h₁ t₁ ad₁ R₁ x₁ i₁ o => ?_)) (hs _)
 exact storeName_rule S hx R₁ i₁ fun h' t R' x' => o .next h' t ad₁ R' x' trivial
noncomputable def sExpr (d : DE) : DS := fun fr σ => (d fr σ).then_ fr fun _ σ => .ok .next fr σ
theorem SndT.expr (S : FnS sc nm gn) {e : Expr} {pos : Pos} {d : DE} (hs : ∀ env, swapsWith e none pos.line env = pure false) (he : SndE C n sc nm e d) : SndT C n sc nm (.Expr e pos) (sExpr d) := by
 intro A qn L f cd cl s ad fr σ Q E ro R o
 refine wpAny_Expr_any (he A qn L f cd cl s ad fr σ _ E ro R (OutS.then_ o fun a σ₁ v h₁ t₁ ad₁ R₁ x₁ i₁ o => ?_)) (by show (sc.kind == .module && _) = false; rw [S.kind]; rfl) (hs _)
 exact OutS.here o R₁ .refl trivial
noncomputable def sRet (d : DE) : DS := fun fr σ => (d fr σ).then_ fr fun a σ => .ok (.ret a) fr σ
theorem SndT.ret {e : Expr} {pos : Pos} {d : DE} (he : SndE C n sc nm e d) : SndT C n sc nm (.Return (some e) pos) (sRet d) := by
 intro A qn L f cd cl s ad fr σ Q E ro R o
 refine wpAny_Return_some (he A qn L f cd cl s ad fr σ _ E ro R (OutS.then_ o fun a σ₁ v h₁ t₁ ad₁ R₁ x₁ i₁ o => ?_))
 exact OutS.here o R₁ .refl i₁
theorem SndT.pass {pos : Pos} : SndT C n sc nm (.Pass pos) SN := by
 intro A qn L f cd cl s ad fr σ Q E ro R o
 exact wpAny_Pass (OutS.here o R .refl trivial)
noncomputable def sCont : DS := fun fr σ => .ok .cont fr σ
theorem SndT.cont {pos : Pos} : SndT C n sc nm (.Continue pos) sCont := by
 intro A qn L f cd cl s ad fr σ Q E ro R o
 exact wpAny_Continue (OutS.here o R .refl trivial)
noncomputable def sIf (c : DB) (a b : DS) : DS := fun fr σ => (c fr σ).then_ fr fun q σ => if q then a fr σ else b fr σ
theorem SndT.if_ {t : Expr} {a b : List Stmt} {pos : Pos} {c : DB} {d e : DS} (ht : SndB C n sc nm t c) (ha : SndS C n sc nm a d) (hb : SndS C n sc nm b e) : SndT C n sc nm (.If t a b pos) (sIf c d e) := by
 intro A qn L f cd cl s ad fr σ Q E ro R o
 refine wpAny_If (ht A qn L f cd cl s ad fr σ _ E ro R (OutS.then_ o fun a σ₁ v h₁ t₁ ad₁ R₁ x₁ i₁ o => ?_))
 subst i₁
 cases v with
 | true => exact ha A qn L f cd cl _ ad₁ fr σ₁ Q E ro R₁ o
 | false => exact hb A qn L f cd cl _ ad₁ fr σ₁ Q E ro R₁ o
end
end Mine
end
section
open PySem PySem.W PySem.Calls PyProof.Rows
namespace Mine
theorem upd_exists {d : Addr} {o o' : Obj} : ∀ {l : List (Addr × Obj)}, (d, o) ∈ l → (l.map (·.1)).Nodup → ∃ l', Upd d o o' l l' ∧ (d, o') ∈ l' ∧ ∀ p ∈ l, p.1 ≠ d → p ∈ l'
 | p :: r, hm, nd => by
  rw [List.map_cons, List.nodup_cons] at nd
  by_cases e : p = (d, o)
  · subst e
    refine ⟨(d, o') :: r, .head fun q hq => ?_, .head _, fun q hq hne => ?_⟩
    · intro e
      exact nd.1 (List.mem_map.mpr ⟨q, hq, e⟩)
    · rcases List.mem_cons.mp hq with rfl | hq
      · exact absurd rfl hne
      · exact .tail _ hq
  · rcases List.mem_cons.mp hm with h | h
    · exact absurd h.symm e
    · obtain ⟨l', u, m, k⟩ := upd_exists (o' := o') h nd.2
      have ne : p.1 ≠ d := fun q => nd.1 (List.mem_map.mpr ⟨(d, o), h, q.symm⟩)
      refine ⟨p :: l', .tail ne u, .tail _ m, fun q hq hne => ?_⟩
      rcases List.mem_cons.mp hq with rfl | hq
      · exact .head _
      · exact .tail _ (k q hq hne)
set_option tactic.hygienic true in
theorem allNews_nodup {h₀ : Heap} {L : Addr} {h : Heap} : ((allNews h₀ L h).map (·.1)).Nodup := by
 unfold allNews
 have key : ∀ (l : List Nat), l.Nodup → ((l.filterMap fun a => if a = L then none else if (h₀.get? a).isSome then none else (h.get? a).map fun o => (a, o)).map (·.1)).Nodup ∧
  ∀ b ∈ ((l.filterMap fun a => if a = L then none else if (h₀.get? a).isSome then none else (h.get? a).map fun o => (a, o)).map (·.1)), b ∈ l := by
  intro l
  induction l with
  | nil => intro _; exact ⟨List.nodup_nil, fun _ hb => by simp at hb⟩
  | cons a r ih =>
   intro nd
   rw [List.nodup_cons] at nd
   obtain ⟨i1, i2⟩ := ih nd.2
   rw [List.filterMap_cons]
   split
   · exact ⟨i1, fun b hb => .tail _ (i2 b hb)⟩
   · rename_i p hp
     have pa : p.1 = a := by
      split at hp
      · cases hp
      · split at hp
        · cases hp
        · obtain ⟨o, _, rfl⟩ := Option.map_eq_some_iff.mp hp; rfl
     rw [List.map_cons, List.nodup_cons, pa]
     refine ⟨⟨fun q => nd.1 (i2 a q), i1⟩, fun b hb => ?_⟩
     rcases List.mem_cons.mp hb with rfl | hb
     · exact .head _
     · exact .tail _ (i2 b hb)
 exact (key _ List.nodup_range).1
noncomputable def putF (k : Nat) (a : AV) : List (Nat × AV) → List (Nat × AV)
 | [] => [(k, a)]
 | (j, b) :: r => if j = k then (k, a) :: r else (j, b) :: putF k a r
theorem FAll.length {c : Nat} {ad : Adr} {h : Heap} {des : List DictEntry} {fs : List (Nat × AV)} (x : FAll c ad h des fs) : des.length = fs.length := by
 induction x with
 | nil => rfl
 | cons _ _ _ _ ih => rw [List.length_cons, List.length_cons, ih]
theorem FAll.put {c : Nat} {ad : Adr} {h : Heap} {k : Nat} {v : Value} {a : AV} (hk : fld c k = true) (hv : VIn ad h v a) {hsh : Int} {t : Tok} {des : List DictEntry} {fs : List (Nat × AV)} (x : FAll c ad h des fs) :
 FAll c ad h (putL (attrName k) hsh (.str (attrName k) t) v des) (putF k a fs) := by
 induction x with
 | nil => exact .cons rfl hk hv .nil
 | @cons e es k' t' a' fs he hl hv' hr ih =>
  have q : e.key.isStr (attrName k) = decide (k' = k) := by rw [he]; exact isStr_attr (fld_lt hl) (fld_lt hk)
  unfold putL putF
  rw [q]
  by_cases z : k' = k
  · subst z
    simp only [decide_true, if_true]
    exact .cons he hk hv hr
  · simp only [decide_eq_false z, Bool.false_eq_true, if_false, if_neg z]
    exact .cons he hl hv' ih
theorem putL_length (name : Str) (hsh : Int) (key v : Value) : ∀ es : List DictEntry, (putL name hsh key v es).length ≤ es.length + 1
 | [] => Nat.le_refl _
 | e :: r => by
  unfold putL
  split
  · simp
  · simpa using putL_length name hsh key v r
noncomputable def setAttrF (k : Nat) (ob a : AV) (fr : Frame) (σ : Store) : GRes := match ob with
 | .loc j => (match σ[j]? with
  | some (.inst c fs) => if (c = 0 ∨ c = 2 ∨ c = 3) ∧ fld c k = true ∧ fs.length < 100 then some (fr, σ.set j (.inst c (putF k a fs))) else none
  | _ => none)
 | _ => none
section
variable {C : Ctx} {n : Nat} {sc : Scope} {nm gn : List Str} {L : Addr} {s : Shared} {ad ad₁ : Adr} {fr : Frame} {σ : Store} {Q : Flow → Shared → Prop} {E : Value → Shared → Prop} {h₁ : Heap} {t₁ : Nat}
set_option tactic.hygienic true in
theorem setAttr_rule {A : Around} {k : Nat} {ob a : AV} {u v : Value} {Q : Unit → Shared → Prop} {E : Value → Shared → Prop} (R : RF C nm L s.heap ad fr σ) (i₁ : VIn ad s.heap u ob) (i₂ : VIn ad s.heap v a)
 (o : OutG C nm L s ad Q (setAttrF k ob a fr σ)) : wpAny (model C.prog C.w) A (setAttr u (attrName k) v) Q E s := by
 unfold setAttrF at o
 split at o
 · rename_i j
   obtain ⟨p, hp, rfl⟩ := i₁.loc_inv
   split at o
   · rename_i c fs e
     split at o
     · rename_i hc
       obtain ⟨hc, hk, hl⟩ := hc
       obtain ⟨m, F, hm⟩ := id R.fr
       obtain ⟨des, w, I, g, r⟩ := attr_inst R.st hp e
       have co := C.clsOk c hc
       have fo := C.fldOk c k hk
       have pL : p.1 ≠ L ∧ p.2 ≠ L := ⟨fun q => R.off ⟨p, List.mem_of_getElem? hp, .inl q.symm⟩, fun q => R.off ⟨p, List.mem_of_getElem? hp, .inr q.symm⟩⟩
       have pn := R.st.new p (List.mem_of_getElem? hp)
       have mem : (p.2, dictOf des w) ∈ allNews C.h₀ L s.heap := mem_allNews.mpr ⟨g, pL.2, pn.2⟩
       generalize es' : putL (attrName k) (PyData.keyHash C.w.params (attrName k)) (.str (attrName k) (s.toks + 1)) v des = des'
       generalize ew : putN (attrName k) des w = w'
       obtain ⟨news', U, um, uk⟩ := upd_exists (o' := dictOf des' w') mem allNews_nodup
       have gl : (getL (attrName k) des).isSome = true := by
        have := r.get (fld_lt hk)
        split at this
        · obtain ⟨_, v, q, _⟩ := this; rw [q]; rfl
        · rw [this]; rfl
       have dl : des'.length ≤ 1000 := by
        rw [← es']
        have := putL_length (attrName k) (PyData.keyHash C.w.params (attrName k)) (.str (attrName k) (s.toks + 1)) v des
        have := r.length
        tb_rel
       refine set_dict F C.X news_all I rfl co.setA co.over fo.taker co.dict gl (by rw [es', ew]) U dl fun h' F' N' => ?_
       -- everything but p.2 (and L) stands
       have keep : ∀ b o, s.heap.get? b = some o → b ≠ L → b ≠ p.2 → h'.get? b = some o := fun b o e hb hb2 => by
        cases q : C.h₀.get? b with
        | none => exact (N' _ (uk (b, o) (mem_allNews.mpr ⟨e, hb, q⟩) hb2)).1
        | some o' =>
         have := F.keep b o' q
         rw [e] at this; cases this
         exact F'.keep b o q
       have g' : h'.get? p.2 = some (dictOf des' w') := (N' _ um).1
       obtain ⟨oL, _, _, hL, hLd, _⟩ := id F.ns
       obtain ⟨oL', _, _, hL', _⟩ := id F'.ns
       have hpm : p ∈ ad := List.mem_of_getElem? hp
       have x : Ext ad [L] s.heap ad h' := by
        refine ⟨⟨[], (List.append_nil _).symm, fun _ hp => nomatch hp⟩, fun b o e ht hb => keep b o e (by simpa using hb) fun q => ht ⟨p, hpm, .inr q⟩, fun b vs n e => ?_, fun b o e => ?_⟩
        · refine keep b _ e (fun q => ?_) fun q => R.st.notTuple e ⟨p, hpm, .inr q⟩
          subst q; rw [hL] at e; cases e; cases hLd
        · by_cases q : b = L
          · subst q; exact ⟨_, hL'⟩
          · by_cases q2 : b = p.2
            · subst q2; exact ⟨_, g'⟩
            · exact ⟨o, keep b o e q q2⟩
       have e1 : h'.get? p.1 = some (instObj (C.cls c) p.2) := by
        obtain ⟨ge, _⟩ := R.st.at hp e
        refine keep _ _ ge pL.1 fun q => ?_
        rw [q, g] at ge; cases ge
       have r' : FAll c ad h' des' (putF k a fs) := by
        rw [← es']
        exact (r.mono (fun _ _ e => e) x.tups).put hk (x.val i₂)
       refine o h' _ ad ⟨⟨by rw [List.length_set]; exact R.st.len, fun i q ob e1' e2 => ?_, R.st.apart, R.st.new, F'.keep, R.st.pin⟩, ⟨m, F', fun i av e => ?_⟩, R.off⟩ x
       · by_cases ij : j = i
         · subst ij
           rw [hp] at e1'; cases e1'
           rw [List.getElem?_set_self (by have := (List.getElem?_eq_some_iff.mp hp).1; rw [R.st.len] at this; exact this)] at e2
           cases e2
           exact ⟨e1, des', w', g', r'⟩
         · rw [List.getElem?_set_ne ij] at e2
           have ap := apart_ne R.st.apart e1' hp (Ne.symm ij)
           have nl : q.1 ≠ L ∧ q.2 ≠ L := ⟨fun z => R.off ⟨q, List.mem_of_getElem? e1', .inl z.symm⟩, fun z => R.off ⟨q, List.mem_of_getElem? e1', .inr z.symm⟩⟩
           exact (R.st.obj i q ob e1' e2).mono (fun _ _ e => e) x.tups (fun o e => keep _ o e nl.1 ap.2.1) fun o e => keep _ o e nl.2 ap.2.2.2
       · obtain ⟨y, v, h1, h2, h3⟩ := hm i av e
         exact ⟨y, v, h1, h2, x.val h3⟩
     · exact o.elim
   · exact o.elim
 · exact o.elim
noncomputable def sSetAttr (k : Nat) (d e : DE) : DS := fun fr σ => (d fr σ).then_ fr fun a σ => (e fr σ).then_ fr fun ob σ => (setAttrF k ob a fr σ).on
theorem SndT.setAttr {e ob : Expr} {name : Str} {p pos : Pos} {d d' : DE} (k : Nat) (hn : name = attrName k) (hs : ∀ env, swapsWith e (some (.Attribute ob name p)) pos.line env = pure false) (he : SndE C n sc nm e d) (ho : SndE C n sc nm ob d') :
 SndT C n sc nm (.Assign [.Attribute ob name p] e pos) (sSetAttr k d d') := by
 intro A qn L f cd cl s ad fr σ Q E ro R o
 subst hn
 refine plainObj_wpAny_Assign_Attribute (he A qn L f cd cl s ad fr σ _ E ro R (OutS.then_ o fun a σ₁ v h₁ t₁ ad₁ R₁ x₁ i₁ o => ?_)) (hs _)
 refine ho A qn L f cd cl _ ad₁ fr σ₁ _ E ro R₁ (OutS.then_ o fun b σ₂ u h₂ t₂ ad₂ R₂ x₂ i₂ o => ?_)
 exact setAttr_rule R₂ i₂ (x₂.val i₁) o.toG
end
end Mine
end
section
open PySem PySem.W PySem.Calls PyProof.Rows
namespace Mine
noncomputable def sForL (chk : Store → Bool) (g : AV → Frame → Store → GRes) (body : DS) : List AV → DS
 | [], fr, σ => .ok .next fr σ
 | x :: xs, fr, σ => match g x fr σ with
  | none => .stuck
  | some p => match body p.1 p.2 with
   | .ok .next fr σ => if chk σ then sForL chk g body xs fr σ else .stuck
   | .ok .cont fr σ => if chk σ then sForL chk g body xs fr σ else .stuck
   | .ok .brk fr σ => .ok .next fr σ
   | .ok (.ret a) fr σ => .ok (.ret a) fr σ
   | .exc _ _ _ => .stuck
   | .stuck => .stuck
noncomputable def GKeeps (g : AV → Frame → Store → GRes) : Prop := ∀ fr σ x p, g x fr σ = some p → ∀ (n : Nat) xs, σ[n]? = some (.list xs) → p.2[n]? = some (.list xs)
section
variable {C : Ctx} {n : Nat} {sc : Scope} {nm gn : List Str} {L : Addr} {s : Shared} {ad ad₁ : Adr} {fr : Frame} {σ : Store} {Q : Flow → Shared → Prop} {E : Value → Shared → Prop} {h₁ : Heap} {t₁ : Nat}
theorem RF.stepAt {h h' : Heap} {I : Addr} (R : RF C nm L h ad fr σ) (hI : ¬ Touch ad I) (hL : I ≠ L) (h0 : C.h₀.get? I = none) (hd : ∀ vs k, h.get? I ≠ some (tupObj vs k)) (k : ∀ b o, b ≠ I → h.get? b = some o → h'.get? b = some o) : RF C nm L h' ad fr σ := by
 obtain ⟨m, F, hm⟩ := R.fr
 have nt : ∀ (i : Nat) (p : Addr × Addr), ad[i]? = some p → p.1 ≠ I ∧ p.2 ≠ I := fun i p e => ⟨fun q => hI ⟨p, List.mem_of_getElem? e, .inl q.symm⟩, fun q => hI ⟨p, List.mem_of_getElem? e, .inr q.symm⟩⟩
 have tk : ∀ a vs n, h.get? a = some (tupObj vs n) → h'.get? a = some (tupObj vs n) := fun a vs n e => k a _ (fun q => hd vs n (q ▸ e)) e
 have ki : ∀ b o, C.h₀.get? b = some o → b ≠ I := fun b o e q => by rw [q, h0] at e; cases e
 refine ⟨⟨R.st.len, fun i p o e1 e2 => (R.st.obj i p o e1 e2).mono (fun _ _ e => e) tk (fun o e => k _ o (nt i p e1).1 e) fun o e => k _ o (nt i p e1).2 e, R.st.apart, R.st.new, fun b o e => k b o (ki b o e) (R.st.keep b o e), R.st.pin⟩,
  ⟨m, ⟨F.ns.at' fun o e => k _ o (Ne.symm hL) e, fun b o e => k b o (ki b o e) (F.keep b o e), F.above⟩, fun i av e => ?_⟩, R.off⟩
 obtain ⟨y, v, h1, h2, h3⟩ := hm i av e
 exact ⟨y, v, h1, h2, h3.mono (fun _ _ e => e) tk⟩
theorem Ext.stepAt {ad₀ ex : _} {h₀ h h' : Heap} {I : Addr} (x : Ext ad₀ ex h₀ ad h) (hI : h₀.get? I = Option.none) (hd : ∀ vs k, h.get? I ≠ some (tupObj vs k)) (k : ∀ b o, b ≠ I → h.get? b = some o → h'.get? b = some o) : Ext ad₀ ex h₀ ad h' := by
 have ne : ∀ b o, h₀.get? b = some o → b ≠ I := fun b o e q => by rw [q, hI] at e; cases e
 refine ⟨x.more, fun b o e ht hb => k b o (ne b o e) (x.keep b o e ht hb), fun b vs n e => k b _ (ne b _ e) (x.tups b vs n e), fun b o e => ?_⟩
 obtain ⟨o', z⟩ := x.grow b o e
 exact ⟨o', k b o' (ne b o e) z⟩
structure ItOk (C : Ctx) (nm : List Str) (L : Addr) (A : Around) (I : Addr) (xs : List AV) (chk : Store → Bool) (target : Expr) (It : Adr → Store → Heap → Nat → Prop) : Prop where
 here : ∀ {ad σ h i}, It ad σ h i → (∃ o, h.get? I = some o) ∧ ∀ vs k, h.get? I ≠ some (tupObj vs k)
 item : ∀ {ad : Adr} {fr : Frame} {σ : Store} {s : Shared} {i : Nat} {x : AV} {Q : Option Value → Shared → Prop} {E : Value → Shared → Prop}, RF C nm L s.heap ad fr σ → It ad σ s.heap i → xs[i]? = some x →
  (∀ v h' t, It ad σ h' (i + 1) → (∀ b o, b ≠ I → s.heap.get? b = some o → h'.get? b = some o) → VIn ad h' v x → Q (some v) { s with heap := h', toks := t }) → wpAny (model C.prog C.w) A (pyNext (.ref I)) Q E s
 done : ∀ {ad : Adr} {fr : Frame} {σ : Store} {s : Shared} {Q : Option Value → Shared → Prop} {E : Value → Shared → Prop}, RF C nm L s.heap ad fr σ → It ad σ s.heap xs.length →
  (∀ h' t, (∀ b o, b ≠ I → s.heap.get? b = some o → h'.get? b = some o) → Q none { s with heap := h', toks := t }) → wpAny (model C.prog C.w) A (pyNext (.ref I)) Q E s
 go : ∀ {ad : Adr} {σ : Store} {s : Shared} {i : Nat} {v : Value} {Q : Unit → Shared → Prop} {E : Value → Shared → Prop}, It ad σ s.heap i → Q () s → wpAny (model C.prog C.w) A (letOwnedTupleGo target (.ref I) v) Q E s
 goes : ∀ {ad ad' : Adr} {σ σ' : Store} {h h' : Heap} {i : Nat}, It ad σ h i → Ext ad [L] h ad' h' → SIn C ad' σ' h' → ¬ Touch ad I → I ≠ L → chk σ' = true → It ad' σ' h' i
theorem forLoop_core {A : Around} {qn : Str} {f : Addr} {cd : Value} {cl : List (Str × Addr)} {I : Addr} {xs : List AV} {chk : Store → Bool} {target : Expr} {body : List Stmt} {It : Adr → Store → Heap → Nat → Prop} {g : AV → Frame → Store → GRes} {d : DS}
 (ro : RoomL C n A L cl) (T : ItOk C nm L A I xs chk target It) (hg : SndG C n sc nm target g) (hb : SndS C n sc nm body d)
 (hchk : ∀ fr σ x p, g x fr σ = some p → chk σ = true → chk p.2 = true)
 (R : RF C nm L h₁ ad fr σ) (x : Ext ad [L] s.heap ad h₁) (h0 : s.heap.get? I = none) (g0 : C.h₀.get? I = none) (hIL : I ≠ L) (hT : ¬ Touch ad I) (hc : chk σ = true) (i0 : It ad σ h₁ 0)
 (o : OutS C nm L s ad Q E (sForL chk g d xs fr σ)) :
 codeAny (model C.prog C.w) A (.forLoop target (.ref I) body [] (envX qn sc L f cd cl)) (fun r s' => match r with | .ok f => Q f s' | .error e => cameBackBy (model C.prog C.w) A (envX qn sc L f cd cl) E e s') { s with heap := h₁, toks := t₁ } := by
 refine codeAny_forLoop_any (fun k s' => ∃ (i : Nat) (fr' : Frame) (σ' : Store) (ad' : Adr) (h : Heap) (t : Nat), s' = { s with heap := h, toks := t } ∧ k = xs.length + 1 - i ∧ i ≤ xs.length ∧ RF C nm L h ad' fr' σ' ∧ Ext ad [L] s.heap ad' h ∧ ¬ Touch ad' I ∧ chk σ' = true ∧ It ad' σ' h i ∧
  OutS C nm L s ad Q E (sForL chk g d (xs.drop i) fr' σ')) ?_ (xs.length + 1) ⟨0, fr, σ, ad, h₁, t₁, rfl, rfl, Nat.zero_le _, R, x, hT, hc, i0, o⟩
 rintro k s' ⟨i, fr', σ', ad', h, t, rfl, rfl, hi, R', x', hT', hc', it, o'⟩
 by_cases hlt : i < xs.length
 · have e : xs[i]? = some xs[i] := List.getElem?_eq_getElem hlt
   refine T.item R' it e fun v h2 t2 it2 k2 hv => ?_
   have td := (T.here it).2
   have R2 := R'.stepAt hT' hIL g0 td k2
   have x2 := x'.stepAt h0 td k2
   refine T.go it2 ?_
   rw [List.drop_eq_getElem_cons hlt] at o'
   unfold sForL at o'
   -- the target, then the body
   have hgo := hg A qn L f cd cl { s with heap := h2, toks := t2 } ad' fr' σ' v xs[i]
   generalize eg : g xs[i] fr' σ' = r at o' hgo
   cases r with
   | none => exact o'.elim
   | some p =>
    have pe := hchk _ _ _ _ eg hc'
    dsimp only at o'
    refine wpAny_mono (hgo _ (fun _ _ => False) ro R2 hv (fun h3 t3 ad3 R3 x3 => ?_)) (fun _ _ y => y) (fun _ _ y => y.elim)
    -- the state behind the target
    have x3' := x2.trans x3
    have it3 : It ad3 p.2 h3 (i + 1) := T.goes it2 x3 R3.st hT' hIL pe
    have nt3 : ¬ Touch ad3 I := by
     obtain ⟨l, rfl, hl⟩ := x3.more
     obtain ⟨oI, hoI⟩ := (T.here it2).1
     exact not_touch_new hl hoI hT'
    have bo := hb A qn L f cd cl { s with heap := h3, toks := t3 } ad3 p.1 p.2
    generalize eb : d p.1 p.2 = rb at o' bo
    have step : ∀ fr4 σ4 h4 t4 ad4, RF C nm L h4 ad4 fr4 σ4 → Ext ad3 [L] h3 ad4 h4 → OutS C nm L s ad Q E (if chk σ4 then sForL chk g d (xs.drop (i + 1)) fr4 σ4 else .stuck) →
     ∃ m, m < xs.length + 1 - i ∧ ∃ (i : Nat) (fr' : Frame) (σ' : Store) (ad' : Adr) (h : Heap) (t : Nat), { s with heap := h4, toks := t4 } = { s with heap := h, toks := t } ∧ m = xs.length + 1 - i ∧ i ≤ xs.length ∧ RF C nm L h ad' fr' σ' ∧ Ext ad [L] s.heap ad' h ∧ ¬ Touch ad' I ∧ chk σ' = true ∧ It ad' σ' h i ∧
      OutS C nm L s ad Q E (sForL chk g d (xs.drop i) fr' σ') := by
     intro fr4 σ4 h4 t4 ad4 R4 x4 o4
     split at o4
     · rename_i hc4
       refine ⟨xs.length + 1 - (i + 1), by tb_rel, i + 1, fr4, σ4, ad4, h4, t4, rfl, rfl, hlt, R4, x3'.trans x4, ?_, hc4, T.goes it3 x4 R4.st nt3 hIL hc4, o4⟩
       obtain ⟨l, rfl, hl⟩ := x4.more
       obtain ⟨oI, hoI⟩ := (T.here it3).1
       exact not_touch_new hl hoI nt3
     · exact o4.elim
    cases rb with
    | ok fl fr4 σ4 =>
     cases fl with
     | next =>
      refine wpAny_mono (bo _ (fun _ _ => False) ro R3 (fun fl h4 t4 ad4 R4 x4 i4 => ?_)) (fun _ _ y => y) (fun _ _ y => y.elim)
      cases fl <;> first | exact i4.elim | skip
      exact step fr4 σ4 h4 t4 ad4 R4 x4 o'
     | cont =>
      refine wpAny_mono (bo _ (fun _ _ => False) ro R3 (fun fl h4 t4 ad4 R4 x4 i4 => ?_)) (fun _ _ y => y) (fun _ _ y => y.elim)
      cases fl <;> first | exact i4.elim | skip
      exact step fr4 σ4 h4 t4 ad4 R4 x4 o'
     | brk =>
      refine wpAny_mono (bo _ (fun _ _ => False) ro R3 (fun fl h4 t4 ad4 R4 x4 i4 => ?_)) (fun _ _ y => y) (fun _ _ y => y.elim)
      cases fl <;> first | exact i4.elim | skip
      exact o' .next h4 t4 ad4 R4 (x3'.trans x4) trivial
     | ret a =>
      refine wpAny_mono (bo _ (fun _ _ => False) ro R3 (fun fl h4 t4 ad4 R4 x4 i4 => ?_)) (fun _ _ y => y) (fun _ _ y => y.elim)
      cases fl <;> first | exact i4.elim | skip
      exact o' (.ret _) h4 t4 ad4 R4 (x3'.trans x4) i4
    | exc a fr4 σ4 => exact o'.elim
    | stuck => exact o'.elim
 · have hin : i = xs.length := by tb_rel
   subst hin
   refine T.done R' it fun h2 t2 k2 => wpAny_execs_nil ?_
   have td := (T.here it).2
   rw [List.drop_length] at o'
   exact o' .next h2 t2 ad' (R'.stepAt hT' hIL g0 td k2) (x'.stepAt h0 td k2) trivial
end
end Mine
end
section
open PySem PySem.W PySem.Calls PyProof.Rows
namespace Mine
open Classical in
noncomputable def chkL (n : Nat) (xs : List AV) (σ : Store) : Bool := decide (σ[n]? = some (.list xs))
open Classical in
theorem GKeeps.chkL {g : AV → Frame → Store → GRes} (k : GKeeps g) (n : Nat) (xs : List AV) : ∀ fr σ x p, g x fr σ = some p → chkL n xs σ = true → chkL n xs p.2 = true := fun fr σ x p e q => by
 unfold Mine.chkL at q ⊢
 exact decide_eq_true (k fr σ x p e n xs (of_decide_eq_true q))
noncomputable def itemsR (a c : Int) (n : Nat) : List AV := (List.range n).map fun i : Nat => .int (a + (i : Int) * c)
noncomputable def sIter (g : AV → Frame → Store → GRes) (body : DS) (a : AV) : DS := fun fr σ => match a with
 | .tup xs => sForL (fun _ => true) g body xs fr σ
 | .str cs => sForL (fun _ => true) g body (cs.map fun c => .str [c]) fr σ
 | .loc n => (match σ[n]? with
  | some (.list xs) => sForL (chkL n xs) g body xs fr σ
  | _ => .stuck)
 | _ => .stuck
noncomputable def sIterL (g : AV → Frame → Store → GRes) (body : DS) (a : AV) : DS := fun fr σ => match a with
 | .loc n => (match σ[n]? with
  | some (.list xs) => sForL (chkL n xs) g body xs fr σ
  | _ => .stuck)
 | _ => .stuck
noncomputable def sFor (d : DE) (g : AV → Frame → Store → GRes) (body : DS) : DS := fun fr σ => (d fr σ).then_ fr fun a σ => sIter g body a fr σ
noncomputable def sForT (d : DE) (g : AV → Frame → Store → GRes) (body : DS) : DS := fun fr σ => (d fr σ).then_ fr fun a σ => sIterL g body a fr σ
section
variable {C : Ctx} {n : Nat} {sc : Scope} {nm gn : List Str} {L : Addr} {s : Shared} {ad ad₁ : Adr} {fr : Frame} {σ : Store} {Q : Flow → Shared → Prop} {E : Value → Shared → Prop} {h₁ : Heap} {t₁ : Nat}
noncomputable def TgtName (target : Expr) : Prop := ∀ it v, letOwnedTupleGo target it v = pure ()
noncomputable def TgtList (target : Expr) : Prop := ∀ (M : Model) (A : Around) (I l : Addr) (i : Nat) (v : Value) (s : Shared) (Q : Unit → Shared → Prop) (E : Value → Shared → Prop), s.heap.IsListIter I l i → Q () s → wpAny M A (letOwnedTupleGo target (.ref I) v) Q E s
theorem TgtName.name {x : Str} {p : Pos} : TgtName (.Name x p) := fun _ _ => rfl
theorem TgtName.list {t : Expr} (h : TgtName t) : TgtList t := fun M A I l i v s Q E _ q => by rw [h]; exact wpAny_pure q
theorem TgtList.tup {elts : List Expr} {k : Nat} {p : Pos} : TgtList (.Tuple elts k p) := fun M A I l i v s Q E hit q => by
 obtain ⟨o, ho, hc, hd⟩ := hit
 unfold letOwnedTupleGo
 cases v with
 | ref T =>
  refine wpAny_bind (wpAny_load ho ?_)
  rw [hc, hd]
  dsimp only
  have : (["enumerate", "zip", "dict_itemiterator", "dict_reverseitemiterator", "odict_iterator", "itertools.zip_longest", "itertools.pairwise"] : List String).contains "list_iterator" = false := by decide
  rw [this]
  exact wpAny_pure q
 | _ => exact wpAny_pure q
theorem ItOk.walk1 {A : Around} {I : Addr} {xs : List AV} {P : Nat → Value → Prop} {St : Nat → Heap → Prop} {target : Expr} (W : Walks C.prog C.w A I [I] [I] xs.length P St)
 (hP : ∀ i x v ad h, xs[i]? = some x → P i v → VIn ad h v x) (hS : ∀ i h, St i h → (∃ o, h.get? I = some o) ∧ ∀ vs k, h.get? I ≠ some (tupObj vs k)) (ht : TgtName target) :
 ItOk C nm L A I xs (fun _ => true) target (fun _ _ h i => St i h) where
 here := fun it => hS _ _ it
 item := fun {ad fr σ s i x Q E} R it hx k => W.item i s Q E (List.getElem?_eq_some_iff.mp hx).1 it fun v h' tk hv st hk => k v h' tk st (fun b o hb e => hk b o (by simpa using hb) e) (hP _ _ _ _ _ hx hv)
 done := fun {ad fr σ s Q E} R it k => W.done s Q E it fun h' tk hk => k h' tk fun b o hb e => hk b o (by simpa using hb) e
 go := fun it q => by rw [ht]; exact wpAny_pure q
 goes := fun {ad ad' σ σ' h h' i} it x S nt hL _ => W.frame _ _ _ it fun b hb o e => x.keep b o e (by rw [List.mem_singleton.mp hb]; exact nt) (by rw [List.mem_singleton.mp hb]; simpa using hL)
theorem ItOk.tup {A : Around} {I ax : Addr} {xs : List AV} {target : Expr} (hh : A.handled = none) (hne : ax ≠ I) (ht : TgtName target) :
 ItOk C nm L A I xs (fun _ => true) target (fun ad σ h i => h.IsTupleIter I ax i ∧ ∃ vs k, h.get? ax = some (tupObj (vs : List Value).toArray k) ∧ VAll ad h vs xs) where
 here := fun it => by
  obtain ⟨⟨o, ho, hc, _⟩, _⟩ := it
  exact ⟨⟨o, ho⟩, fun vs k q => by rw [ho] at q; cases q; simp at hc⟩
 item := fun {ad fr σ s i x Q E} R it hx k => by
  obtain ⟨it, vs, n, g, r⟩ := it
  obtain ⟨v, hv, iv⟩ := r.get hx
  refine wpAny_pyNext_tuple_item it ⟨_, g, rfl, n, rfl⟩ (by simpa using hv) fun h' it' sb => ?_
  have tk : ∀ b us k, s.heap.get? b = some (tupObj us k) → h'.get? b = some (tupObj us k) := fun b us k e => by
   by_cases q : b = I
   · subst q
     obtain ⟨o, ho, hc, _⟩ := it
     rw [ho] at e; cases e; simp at hc
   · exact sameBut_keeps sb _ _ e q
  exact k v h' s.toks ⟨it', vs, n, tk _ _ _ g, r.mono (fun _ _ e => e) tk⟩ (fun b o hb e => sameBut_keeps sb b o e hb) (iv.mono (fun _ _ e => e) tk)
 done := fun {ad fr σ s Q E} R it k => by
  obtain ⟨it, vs, n, g, r⟩ := it
  have hl := r.length
  refine wpAny_pyNext_tuple_end hh it ⟨_, g, rfl, n, rfl⟩ (by simp [hl]) fun h' eb => k h' s.toks fun b o hb e => eb b o hb e
 go := fun it q => by rw [ht]; exact wpAny_pure q
 goes := fun {ad ad' σ σ' h h' i} it x S nt hL _ => by
  obtain ⟨it, vs, n, g, r⟩ := it
  exact ⟨it.at fun o e => x.keep I o e nt (by simpa using hL), vs, n, x.tups _ _ _ g, x.vals r⟩
theorem ItOk.list {A : Around} {I : Addr} {j : Nat} {xs : List AV} {target : Expr} (hh : A.handled = none) (ht : TgtList target) :
 ItOk C nm L A I xs (chkL j xs) target (fun ad σ h i => ∃ p, ad[j]? = some p ∧ h.IsListIter I p.1 i ∧ σ[j]? = some (.list xs)) where
 here := fun it => by
  obtain ⟨p, hp, ⟨o, ho, hc, _⟩, _⟩ := it
  exact ⟨⟨o, ho⟩, fun vs k q => by rw [ho] at q; cases q; simp at hc⟩
 item := fun {ad fr σ s i x Q E} R it hx k => by
  obtain ⟨p, hp, it, e⟩ := it
  obtain ⟨vs, n, g, r⟩ := R.st.list hp e
  obtain ⟨v, hv, iv⟩ := r.get hx
  refine wpAny_pyNext_list_item it ⟨_, g, rfl, n, rfl⟩ (by simpa using hv) fun h' it' sb => ?_
  have tk : ∀ b us k, s.heap.get? b = some (tupObj us k) → h'.get? b = some (tupObj us k) := fun b us k e => by
   by_cases q : b = I
   · subst q
     obtain ⟨o, ho, hc, _⟩ := it
     rw [ho] at e; cases e; simp at hc
   · exact sameBut_keeps sb _ _ e q
  exact k v h' s.toks ⟨p, hp, it', e⟩ (fun b o hb e => sameBut_keeps sb b o e hb) (iv.mono (fun _ _ e => e) tk)
 done := fun {ad fr σ s Q E} R it k => by
  obtain ⟨p, hp, it, e⟩ := it
  obtain ⟨vs, n, g, r⟩ := R.st.list hp e
  have hl := r.length
  refine wpAny_pyNext_list_end hh it ⟨_, g, rfl, n, rfl⟩ (by simp [hl]) fun h' eb => k h' s.toks fun b o hb e => eb b o hb e
 go := fun {ad σ s i v Q E} it q => by
  obtain ⟨p, hp, it, e⟩ := it
  exact ht _ _ I p.1 i v s Q E it q
 goes := fun {ad ad' σ σ' h h' i} it x S nt hL hc => by
  obtain ⟨p, hp, it, e⟩ := it
  refine ⟨p, x.idx _ _ hp, it.at fun o e => x.keep I o e nt (by simpa using hL), ?_⟩
  simpa [chkL] using hc
theorem for_start {A : Around} {qn : Str} {f : Addr} {cd : Value} {cl : List (Str × Addr)} {xs : List AV} {chk : Store → Bool} {target : Expr} {body : List Stmt} {It : Adr → Store → Heap → Nat → Prop} {g : AV → Frame → Store → GRes} {d : DS} {o : Obj} {h0 : Heap}
 (ro : RoomL C n A L cl) (T : ItOk C nm L A h0.objs.size xs chk target It) (hg : SndG C n sc nm target g) (hb : SndS C n sc nm body d)
 (hchk : ∀ fr σ x p, g x fr σ = some p → chk σ = true → chk p.2 = true) (R : RF C nm L h0 ad fr σ) (k : ∀ b o, s.heap.get? b = some o → h0.get? b = some o) (hc : chk σ = true) (i0 : It ad σ (h0.push o) 0)
 (out : OutS C nm L s ad Q E (sForL chk g d xs fr σ)) :
 codeAny (model C.prog C.w) A (.forLoop target (.ref h0.objs.size) body [] (envX qn sc L f cd cl)) (fun r s' => match r with | .ok f => Q f s' | .error e => cameBackBy (model C.prog C.w) A (envX qn sc L f cd cl) E e s') { s with heap := h0.push o, toks := t₁ } := by
 have n0 : h0.get? h0.objs.size = none := push_new h0
 have hL : h0.objs.size ≠ L := by
  obtain ⟨m, F, _⟩ := R.fr
  obtain ⟨oL, es, ep, e, _⟩ := id F.ns
  exact Nat.ne_of_gt (Heap.lt_size e)
 refine forLoop_core (s := s) (ad := ad) (h₁ := h0.push o) ro T hg hb hchk (R.keeps (push_keeps _ _)) (Ext.keeps fun b o e => push_keeps _ _ _ _ (k b o e)) ?_ (R.st.ground n0) hL (R.st.fresh n0) hc i0 out
 cases q : s.heap.get? h0.objs.size with
 | none => rfl
 | some o => have := k _ _ q; rw [n0] at this; cases this
set_option tactic.hygienic true in
theorem iterL_rule {A : Around} {qn : Str} {f : Addr} {cd : Value} {cl : List (Str × Addr)} {a : AV} {v : Value} {target : Expr} {body : List Stmt} {g : AV → Frame → Store → GRes} {d : DS} (hq : 10 ≤ n) (ro : RoomL C n A L cl) (ht : TgtList target)
 (hg : SndG C n sc nm target g) (hb : SndS C n sc nm body d) (hchk : GKeeps g) (R : RF C nm L s.heap ad fr σ) (i : VIn ad s.heap v a) (o : OutS C nm L s ad Q E (sIterL g d a fr σ)) :
 wpAny (model C.prog C.w) A (pyIter v) (fun it s₂ => codeAny (model C.prog C.w) A (.forLoop target it body [] (envX qn sc L f cd cl)) (fun r s' => match r with | .ok f => Q f s' | .error e => cameBackBy (model C.prog C.w) A (envX qn sc L f cd cl) E e s') s₂) E s := by
 unfold sIterL at o
 split at o
 · rename_i j
   obtain ⟨p, hp, rfl⟩ := i.loc_inv
   split at o
   · rename_i xs e
     obtain ⟨vs, k, g', r⟩ := R.st.list hp e
     refine wpAny_pyIter_list ⟨_, g', rfl, k, rfl⟩ ?_
     exact for_start ro (ItOk.list (j := j) (ro.quiet hq) ht) hg hb (hchk.chkL _ _) R (fun _ _ e => e) (by simp [chkL, e]) ⟨p, hp, ⟨_, Heap.get?_push_size _ rfl, rfl, rfl⟩, e⟩ o
   · exact o.elim
 · exact o.elim
set_option tactic.hygienic true in
theorem iter_rule {A : Around} {qn : Str} {f : Addr} {cd : Value} {cl : List (Str × Addr)} {a : AV} {v : Value} {target : Expr} {body : List Stmt} {g : AV → Frame → Store → GRes} {d : DS} (hq : 10 ≤ n) (ro : RoomL C n A L cl) (ht : TgtName target)
 (hg : SndG C n sc nm target g) (hb : SndS C n sc nm body d) (hchk : GKeeps g) (R : RF C nm L s.heap ad fr σ) (i : VIn ad s.heap v a) (o : OutS C nm L s ad Q E (sIter g d a fr σ)) :
 wpAny (model C.prog C.w) A (pyIter v) (fun it s₂ => codeAny (model C.prog C.w) A (.forLoop target it body [] (envX qn sc L f cd cl)) (fun r s' => match r with | .ok f => Q f s' | .error e => cameBackBy (model C.prog C.w) A (envX qn sc L f cd cl) E e s') s₂) E s := by
 unfold sIter at o
 split at o
 · rename_i xs
   obtain ⟨b, vs, k, rfl, g', r⟩ := i.tup_inv
   refine wpAny_pyIter_tuple ⟨_, g', rfl, k, rfl⟩ ?_
   exact for_start ro (ItOk.tup (ax := b) (ro.quiet hq) (Nat.ne_of_lt (Heap.lt_size g')) ht) hg hb (fun _ _ _ _ _ _ => rfl) R (fun _ _ e => e) rfl ⟨⟨_, Heap.get?_push_size _ rfl, rfl, rfl⟩, vs, k, push_keeps _ _ _ _ g', r.mono (fun _ _ e => e) fun _ _ _ e => push_keeps _ _ _ _ e⟩ o
 · rename_i cs
   obtain ⟨t, rfl⟩ := i.str_inv
   have hP : ∀ (i : Nat) (x : AV) (v : Value) (ad : Adr) (h : Heap), (cs.map fun c => AV.str [c])[i]? = some x → SignAt ⟨cs.toArray⟩ i v → VIn ad h v x := fun i x v ad h hx hv => by
    obtain ⟨c, u, e1, rfl⟩ := hv
    rw [List.getElem?_map] at hx
    have e1' : cs[i]? = some c := by simpa using e1
    rw [e1'] at hx
    simp at hx; subst hx
    exact .str [c] u
   have hS : ∀ cls, cls ≠ "tuple" → ∀ i (h : Heap), h.IsStrIter s.heap.objs.size cls ⟨cs.toArray⟩ t i → (∃ o, h.get? s.heap.objs.size = some o) ∧ ∀ vs k, h.get? s.heap.objs.size ≠ some (tupObj vs k) := fun cls hcls i h it => by
    obtain ⟨o, ho, hc, _⟩ := it
    exact ⟨⟨o, ho⟩, fun vs k q => by rw [ho] at q; cases q; simp at hc; exact hcls hc.symm⟩
   have e : (cs.map fun c => AV.str [c]).length = (⟨cs.toArray⟩ : Str).cps.size := by simp
   cases ha : (⟨cs.toArray⟩ : Str).cps.all (· < 128)
   · refine wpAny_pyIter_wide ha ?_
     exact for_start ro (ItOk.walk1 (by rw [e]; exact Walks.strWide (ro.quiet hq) _ _ t) hP (hS _ (by decide)) ht) hg hb (fun _ _ _ _ _ _ => rfl) R (fun _ _ e => e) rfl ⟨_, Heap.get?_push_size _ rfl, rfl, rfl⟩ o
   · refine wpAny_pyIter_ascii ha ?_
     exact for_start ro (ItOk.walk1 (by rw [e]; exact Walks.strAscii (ro.quiet hq) _ _ t) hP (hS _ (by decide)) ht) hg hb (fun _ _ _ _ _ _ => rfl) R (fun _ _ e => e) rfl ⟨_, Heap.get?_push_size _ rfl, rfl, rfl⟩ o
 · exact iterL_rule (a := .loc _) hq ro ht.list hg hb hchk R i o
 · exact o.elim
theorem SndT.for_ (hq : 10 ≤ n) {target iter : Expr} {body : List Stmt} {pos : Pos} {d : DE} {g : AV → Frame → Store → GRes} {b : DS} (ht : TgtName target) (hf : ∀ env x, foldedSetIterable iter env x = pure x) (hchk : GKeeps g)
 (he : SndE C n sc nm iter d) (hg : SndG C n sc nm target g) (hb : SndS C n sc nm body b) : SndT C n sc nm (.For target iter body [] pos) (sFor d g b) := by
 intro A qn L f cd cl s ad fr σ Q E ro R o
 refine wpAny_For (he A qn L f cd cl s ad fr σ _ E ro R (OutS.then_ o fun a σ₁ v h₁ t₁ ad₁ R₁ x₁ i₁ o => ?_)) (hf _)
 exact iter_rule hq ro ht hg hb hchk R₁ i₁ o
theorem SndT.forT (hq : 10 ≤ n) {target iter : Expr} {body : List Stmt} {pos : Pos} {d : DE} {g : AV → Frame → Store → GRes} {b : DS} (ht : TgtList target) (hf : ∀ env x, foldedSetIterable iter env x = pure x) (hchk : GKeeps g)
 (he : SndE C n sc nm iter d) (hg : SndG C n sc nm target g) (hb : SndS C n sc nm body b) : SndT C n sc nm (.For target iter body [] pos) (sForT d g b) := by
 intro A qn L f cd cl s ad fr σ Q E ro R o
 refine wpAny_For (he A qn L f cd cl s ad fr σ _ E ro R (OutS.then_ o fun a σ₁ v h₁ t₁ ad₁ R₁ x₁ i₁ o => ?_)) (hf _)
 exact iterL_rule hq ro ht hg hb hchk R₁ i₁ o
end
end Mine
end
section
open PySem PySem.W PySem.Calls PyProof.Rows
namespace Mine
noncomputable def rangeOf : List AV → Option (Int × Int × Nat)
 | [.int b] => if small b = true then some (0, 1, b.toNat) else none
 | [.int a, .int b] => if small a = true ∧ small b = true then some (a, 1, (b - a).toNat) else none
 | [.int a, .int b, .int c] => if small a = true ∧ small b = true ∧ c = -1 then some (a, -1, (a - b).toNat) else none
 | _ => none
noncomputable def sForR (d : DL) (g : AV → Frame → Store → GRes) (body : DS) : DS := fun fr σ => (d fr σ).then_ fr fun as σ => match rangeOf as with
 | some (a, c, n) => sForL (fun _ => true) g body (itemsR a c n) fr σ
 | none => .stuck
theorem rangeSize_neg (a b : Int) : Builtin.Range.rangeSize a b (-1) = if a > b then a - b else 0 := by
 unfold Builtin.Range.rangeSize
 simp only [show ¬ (-1 : Int) > 0 by decide, if_false, Int.neg_neg, Int.ediv_one]
 split <;> tb_rel
theorem small_neg {a b : Int} (ha : -(2 ^ 62) ≤ a) (ha' : a < 2 ^ 62) (hb : -(2 ^ 62) ≤ b) (hb' : b < 2 ^ 62) : Builtin.Range.small a b (-1) = true := by
 unfold Builtin.Range.small
 rw [rangeSize_neg]
 simp only [Builtin.Range.rangeFitsLong, Bool.and_eq_true, Bool.or_eq_true, decide_eq_true_eq, beq_iff_eq, show ¬ (-1 : Int) > 0 by decide, if_false]
 split <;> tb_rel
theorem small_lt {a : Int} (h : small a = true) : -(2 ^ 62) ≤ a ∧ a < 2 ^ 62 := by
 unfold small at h
 simp only [Bool.and_eq_true, decide_eq_true_eq] at h
 tb_rel
section
variable {C : Ctx} {n : Nat} {sc : Scope} {nm gn : List Str} {L : Addr} {s : Shared} {ad ad₁ : Adr} {fr : Frame} {σ : Store} {Q : Flow → Shared → Prop} {E : Value → Shared → Prop} {h₁ : Heap} {t₁ : Nat}
theorem range_go {A : Around} {qn : Str} {f : Addr} {cd : Value} {cl : List (Str × Addr)} {target : Expr} {body : List Stmt} {g : AV → Frame → Store → GRes} {d : DS} {a b c : Int} {k : Nat} {t u v : Tok} {tk : Nat} (hq : 10 ≤ n) (ro : RoomL C n A L cl) (ht : TgtName target)
 (hg : SndG C n sc nm target g) (hb : SndS C n sc nm body d) (hchk : GKeeps g) (R : RF C nm L s.heap ad fr σ)
 (hs : Builtin.Range.small a b c = true) (hn : Builtin.Range.rangeSize a b c = (k : Int)) (o : OutS C nm L s ad Q E (sForL (fun _ => true) g d (itemsR a c k) fr σ)) :
 wpAny (model C.prog C.w) A (pyIter (.ref s.heap.objs.size)) (fun it s₂ => codeAny (model C.prog C.w) A (.forLoop target it body [] (envX qn sc L f cd cl)) (fun r s' => match r with | .ok f => Q f s' | .error e => cameBackBy (model C.prog C.w) A (envX qn sc L f cd cl) E e s') s₂) E
  { s with heap := s.heap.push { cls := .type "range", data := .fields #[.int a t, .int b u, .int c v] }, toks := tk } := by
 refine wpAny_pyIter_range (IsRange.new _ _ _ _ _ _ _) hs ?_
 have hP : ∀ (i : Nat) (x : AV) (v : Value) (ad : Adr) (h : Heap), (itemsR a c k)[i]? = some x → (∃ t, v = Value.int (a + i * c) t) → VIn ad h v x := fun i x v ad h hx hv => by
  obtain ⟨t, rfl⟩ := hv
  unfold itemsR at hx
  rw [List.getElem?_map] at hx
  obtain ⟨j, hj, rfl⟩ := Option.map_eq_some_iff.mp hx
  rw [List.getElem?_range (by have := (List.getElem?_eq_some_iff.mp hj).1; simpa using this)] at hj
  cases hj
  exact .int _ t
 have hS : ∀ (I : Addr) (i : Nat) (h : Heap), IsRangeIter h I (a + (i : Nat) * c) ((k : Int) - (i : Nat)) c → (∃ o, h.get? I = some o) ∧ ∀ vs n, h.get? I ≠ some (tupObj vs n) := fun I i h it => by
  refine ⟨⟨_, it⟩, fun vs n q => ?_⟩
  rw [show h.get? I = _ from it] at q; simp at q
 have e : (itemsR a c k).length = k := by simp [itemsR]
 refine for_start (s := s) (h0 := s.heap.push { cls := .type "range", data := .fields #[.int a t, .int b u, .int c v] }) ro (ItOk.walk1 (by rw [e]; exact Walks.range (ro.quiet hq) _ a c k) hP (hS _) ht) hg hb (fun _ _ _ _ _ _ => rfl) (R.keeps (push_keeps _ _)) (push_keeps _ _) rfl ?_ o
 show Heap.get? _ _ = _
 rw [Heap.get?_push_size _ rfl, hn]
 simp
set_option tactic.hygienic true in
theorem range_rule {A : Around} {qn : Str} {f : Addr} {cd : Value} {cl : List (Str × Addr)} {target : Expr} {body : List Stmt} {g : AV → Frame → Store → GRes} {d : DS} {as : List AV} {vs : List Value} (hq : 10 ≤ n) (ro : RoomL C n A L cl) (ht : TgtName target)
 (hg : SndG C n sc nm target g) (hb : SndS C n sc nm body d) (hchk : GKeeps g) (R : RF C nm L s.heap ad fr σ) (i : VAll ad s.heap vs as)
 (o : OutS C nm L s ad Q E (match rangeOf as with | some (a, c, n) => sForL (fun _ => true) g d (itemsR a c n) fr σ | none => .stuck)) :
 wpAny (model C.prog C.w) A (call (.type "range") vs) (fun x s₁ => wpAny (model C.prog C.w) A (pyIter x) (fun it s₂ => codeAny (model C.prog C.w) A (.forLoop target it body [] (envX qn sc L f cd cl)) (fun r s' => match r with | .ok f => Q f s' | .error e => cameBackBy (model C.prog C.w) A (envX qn sc L f cd cl) E e s') s₂) E s₁) E s := by
 unfold rangeOf at o
 split at o
 · rename_i a' c' k' e
   split at e
   · rename_i b
     split at e
     · rename_i hb'
       cases e
       cases i with
       | cons x r =>
       cases r
       obtain ⟨t, rfl⟩ := x.int_inv
       have z := small_lt hb'
       refine call_range_1 (range_go hq ro ht hg hb hchk R (small_one (by tb_rel) (by tb_rel) z.1 z.2) ?_ o)
       rw [rangeSize_one]; split <;> tb_rel
     · cases e
   · rename_i a b
     split at e
     · rename_i hb'
       cases e
       cases i with
       | cons x r =>
       cases r with
       | cons y r =>
       cases r
       obtain ⟨t, rfl⟩ := x.int_inv
       obtain ⟨u, rfl⟩ := y.int_inv
       have z := small_lt hb'.1
       have z' := small_lt hb'.2
       refine call_range_2 (range_go hq ro ht hg hb hchk R (small_one z.1 z.2 z'.1 z'.2) ?_ o)
       rw [rangeSize_one]; split <;> tb_rel
     · cases e
   · rename_i a b c
     split at e
     · rename_i hb'
       cases e
       obtain ⟨ha', hb', rfl⟩ := hb'
       cases i with
       | cons x r =>
       cases r with
       | cons y r =>
       cases r with
       | cons w r =>
       cases r
       obtain ⟨t, rfl⟩ := x.int_inv
       obtain ⟨u, rfl⟩ := y.int_inv
       obtain ⟨v, rfl⟩ := w.int_inv
       have z := small_lt ha'
       have z' := small_lt hb'
       refine call_range_3 (by decide) (range_go hq ro ht hg hb hchk R (small_neg z.1 z.2 z'.1 z'.2) ?_ o) (Or.inl (PyProof.noPylong_of_log2 (by decide +kernel)))
       rw [rangeSize_neg]; split <;> tb_rel
     · cases e
   · cases e
 · exact o.elim
theorem SndT.forR (hq : 10 ≤ n) (S : FnS sc nm gn) {np cp target : _} {args : List Expr} {body : List Stmt} {pos : Pos} {d : DL} {g : AV → Frame → Store → GRes} {b : DS} (j : Nat) (hx : gn[j]? = some "range") (h0 : C.mg "range" = none) (ht : TgtName target) (hchk : GKeeps g)
 (he : SndL C n sc nm args d) (hg : SndG C n sc nm target g) (hb : SndS C n sc nm body b) : SndT C n sc nm (.For target (.Call (.Name "range" np) args [] cp) body [] pos) (sForR d g b) := by
 intro A qn L f cd cl s ad fr σ Q E ro R o
 obtain ⟨mm, F, _⟩ := id R.fr
 have mem : ("range" : Str) ∈ gn := List.mem_of_getElem? hx
 refine wpAny_For (wpAny_Call_NameR (Name_function_global S.kind (S.glob _ mem) (loadGlobal_builtin (env := envX qn sc L f cd cl) (v := .type "range") (C.T.g.keeps F.keep) h0 (C.T.b.keeps F.keep) ((C.T.builtins _ (by decide)).trans rfl) ?_) (S.debug _ (List.mem_append_right _ mem))))
 refine callWith_of (P := C.K.In) (by rw [he.bare]; rfl) KeepOk.type (evalArgs_bare (he.bare _ _) (he.sem A qn L f cd cl cp s ad fr σ _ E ro R (OutS.then_ o fun as σ' vs h₁ t₁ ad₁ R₁ x₁ i₁ o => ?_)))
 exact ⟨R₁.st.inK, range_rule hq ro ht hg hb hchk R₁ i₁ o⟩
end
end Mine
end
section
open PySem PySem.W PySem.Calls PyProof.Rows
namespace Mine
noncomputable def sWhile (c : DB) (b : DS) : Nat → DS
 | 0, _, _ => .stuck
 | k + 1, fr, σ => match c fr σ with
  | .ok true σ => (match b fr σ with
   | .ok .next fr σ => sWhile c b k fr σ
   | .ok .cont fr σ => sWhile c b k fr σ
   | .ok .brk fr σ => .ok .next fr σ
   | .ok (.ret a) fr σ => .ok (.ret a) fr σ
   | .exc _ _ _ => .stuck
   | .stuck => .stuck)
  | .ok false σ => .ok .next fr σ
  | _ => .stuck
noncomputable def gTup2 (g1 g2 : AV → Frame → Store → GRes) : AV → Frame → Store → GRes := fun a fr σ => match a with
 | .tup [x, y] => (match g1 x fr σ with
  | some p => g2 y p.1 p.2
  | none => none)
 | _ => none
noncomputable def addF (a b : AV) (σ : Store) : Res AV := match a, b with
 | .int i, .int j => .ok (.int (i + j)) σ
 | _, _ => .stuck
noncomputable def sAug (i : Nat) (e : DE) : DS := fun fr σ => (DV i fr σ).then_ fr fun a σ => (e fr σ).then_ fr fun b σ => (addF a b σ).then_ fr fun c σ => .ok .next (fr.set i (some c)) σ
noncomputable def setAt {κ : Type} [DecidableEq κ] (k : κ) (a : AV) (es : List (κ × AV)) : List (κ × AV) :=
 if (es.any fun e => decide (e.1 = k)) = true then es.map (fun e => if e.1 = k then (e.1, a) else e) else es ++ [(k, a)]
noncomputable def setItemF (o i a : AV) (fr : Frame) (σ : Store) : GRes := match o with
 | .loc j => (match σ[j]?, i with
  | some (.list xs), .int k => if 0 ≤ k ∧ k < xs.length ∧ xs.length ≤ 2 ^ 24 then some (fr, σ.set j (.list (xs.set k.toNat a))) else none
  | some (.dictS es), .str k => if es.length ≤ 2 ^ 24 then some (fr, σ.set j (.dictS (setAt k a es))) else none
  | some (.dictI es), .int k => if es.length ≤ 2 ^ 24 then some (fr, σ.set j (.dictI (setAt k a es))) else none
  | some (.dictP es), .tup [.int k, .int l] => if es.length ≤ 2 ^ 24 then some (fr, σ.set j (.dictP (setAt (k, l) a es))) else none
  | _, _ => none)
 | _ => none
noncomputable def sSetItem (v o i : DE) : DS := fun fr σ => (v fr σ).then_ fr fun a σ => (o fr σ).then_ fr fun b σ => (i fr σ).then_ fr fun k σ => (setItemF b k a fr σ).on
noncomputable def sAugItem (o i v : DE) : DS := fun fr σ => (o fr σ).then_ fr fun b σ => (i fr σ).then_ fr fun k σ => (itemF b k σ).then_ fr fun old σ => (v fr σ).then_ fr fun a σ => (addF old a σ).then_ fr fun c σ => (setItemF b k c fr σ).on
section
variable {C : Ctx} {n : Nat} {sc : Scope} {nm gn : List Str} {L : Addr} {s : Shared} {ad ad₁ : Adr} {fr : Frame} {σ : Store} {Q : Flow → Shared → Prop} {E : Value → Shared → Prop} {h₁ : Heap} {t₁ : Nat}
theorem SndT.while_ {t : Expr} {b : List Stmt} {pos : Pos} {c : DB} {d : DS} (k : Nat) (ht : SndB C n sc nm t c) (hb : SndS C n sc nm b d) : SndT C n sc nm (.While t b [] pos) (sWhile c d k) := by
 intro A qn L f cd cl s ad fr σ Q E ro R o
 refine wpAny_While ?_
 refine codeAny_whileLoop (fun k s' => ∃ (fr' : Frame) (σ' : Store) (ad' : Adr) (h : Heap) (t : Nat), s' = { s with heap := h, toks := t } ∧ RF C nm L h ad' fr' σ' ∧ Ext ad [L] s.heap ad' h ∧ OutS C nm L s ad Q E (sWhile c d k fr' σ')) ?_ k ⟨fr, σ, ad, s.heap, s.toks, rfl, R, .refl, o⟩
 rintro k s' ⟨fr', σ', ad', h, t, rfl, R', x', o'⟩
 cases k with
 | zero => exact o'.elim
 | succ k =>
  unfold sWhile at o'
  have hto := ht A qn L f cd cl { s with heap := h, toks := t } ad' fr' σ'
  generalize c fr' σ' = rt at o' hto
  cases rt with
  | exc a σ => exact o'.elim
  | stuck => exact o'.elim
  | ok q σ2 =>
   refine wpAny_mono (hto _ (fun _ _ => False) ro R' (fun v h2 t2 ad2 R2 x2 e2 => ?_)) (fun _ _ y => y) (fun _ _ y => y.elim)
   subst e2
   cases v with
   | false =>
    dsimp only at o' ⊢
    refine wpAny_execs_nil (o' .next h2 t2 ad2 R2 (x'.trans x2) trivial)
   | true =>
    dsimp only at o' ⊢
    have bo := hb A qn L f cd cl { s with heap := h2, toks := t2 } ad2 fr' σ2
    generalize d fr' σ2 = rb at o' bo
    rw [if_pos rfl]
    cases rb with
    | exc a fr4 σ4 => exact o'.elim
    | stuck => exact o'.elim
    | ok fl fr4 σ4 =>
     refine wpAny_mono (bo _ (fun _ _ => False) ro R2 (fun f4 h4 t4 ad4 R4 x4 i4 => ?_)) (fun _ _ y => y) (fun _ _ y => y.elim)
     cases fl with
     | next => cases f4 <;> first | exact i4.elim | exact ⟨k, Nat.lt_succ_self k, fr4, σ4, ad4, h4, t4, rfl, R4, (x'.trans x2).trans x4, o'⟩
     | cont => cases f4 <;> first | exact i4.elim | exact ⟨k, Nat.lt_succ_self k, fr4, σ4, ad4, h4, t4, rfl, R4, (x'.trans x2).trans x4, o'⟩
     | brk => cases f4 <;> first | exact i4.elim | exact o' .next h4 t4 ad4 R4 ((x'.trans x2).trans x4) trivial
     | ret a => cases f4 <;> first | exact i4.elim | exact o' (.ret _) h4 t4 ad4 R4 ((x'.trans x2).trans x4) i4
theorem RF.extBut {h h' : Heap} (R : RF C nm L h ad fr σ) (k : Heap.ExtBut h.objs.size h h') : ∀ b o, h.get? b = some o → h'.get? b = some o :=
 fun b o e => k b o (Nat.ne_of_lt (Heap.lt_size e)) e
set_option tactic.hygienic true in
theorem SndG.tup2 (hq : 10 ≤ n) {e1 e2 : Expr} {k : Nat} {pos : Pos} {g1 g2 : AV → Frame → Store → GRes} (hs : ∀ env, assignEach [e1, e2] env = [(false, fun v => assign e1 env v), (false, fun v => assign e2 env v)])
 (h1 : SndG C n sc nm e1 g1) (h2 : SndG C n sc nm e2 g2) : SndG C n sc nm (.Tuple [e1, e2] k pos) (gTup2 g1 g2) := by
 intro A qn L f cd cl s ad fr σ v a Q E ro R i o
 unfold gTup2 at o
 split at o
 · rename_i x y
   obtain ⟨b, vs, kk, rfl, g, r⟩ := i.tup_inv
   cases r with
   | cons ix r =>
   cases r with
   | cons iy r =>
   cases r
   refine assign_Tuple_tuple (ro.quiet hq) ⟨_, g, rfl, _, rfl⟩ (by rw [hs]; rfl) (by rw [hs]; rfl) fun h' eb => ?_
   have k := R.extBut eb
   have R' := R.keeps k
   have tk : ∀ a vs n, s.heap.get? a = some (tupObj vs n) → h'.get? a = some (tupObj vs n) := fun a vs n e => k a _ e
   rw [hs]
   generalize e1 : g1 x fr σ = r1 at o
   cases r1 with
   | none => exact o.elim
   | some p =>
    dsimp only at o
    refine assignInOrder_cons (h1 A qn L f cd cl { s with heap := h' } ad fr σ _ x _ E ro R' (ix.mono (fun _ _ e => e) tk) ?_)
    rw [e1]
    intro h3 t3 ad3 R3 x3
    refine assignInOrder_cons (h2 A qn L f cd cl { s with heap := h3, toks := t3 } ad3 p.1 p.2 _ y _ E ro R3 (x3.val (iy.mono (fun _ _ e => e) tk)) ?_)
    refine OutG.rebase (r := g2 y p.1 p.2) ?_ ((Ext.keeps k).trans x3)
    cases eg : g2 y p.1 p.2 with
    | none => rw [eg] at o; exact o
    | some p' => rw [eg] at o; exact fun h t ad' R x => assignInOrder_nil (o h t ad' R x)
 · exact o.elim
theorem SndT.assignTup {elts : List Expr} {k : Nat} {e : Expr} {tp pos : Pos} {d : DE} {g : AV → Frame → Store → GRes} (h1 : ∀ env, swapsWithSole [.Tuple elts k tp] e pos.line env = pure false) (h2 : ∀ env, swappedStores [.Tuple elts k tp] e env = pure none)
 (he : SndE C n sc nm e d) (hg : SndG C n sc nm (.Tuple elts k tp) g) : SndT C n sc nm (.Assign [.Tuple elts k tp] e pos) (fun fr σ => (d fr σ).then_ fr fun a σ => (g a fr σ).on) := by
 intro A qn L f cd cl s ad fr σ Q E ro R o
 refine Assign_Tuple (he A qn L f cd cl s ad fr σ _ E ro R (OutS.then_ o fun a σ₁ v h₁ t₁ ad₁ R₁ x₁ i₁ o => ?_)) (h1 _) (h2 _)
 exact hg A qn L f cd cl _ ad₁ fr σ₁ v a _ E ro R₁ i₁ o.toG
theorem add_rule {A : Around} {a b : AV} {u v : Value} {Q : Value → Shared → Prop} {E : Value → Shared → Prop} (R : RF C nm L s.heap ad fr σ) (i₁ : VIn ad s.heap u a) (i₂ : VIn ad s.heap v b) (o : OutX C nm L s ad fr VIn Q E (addF a b σ)) :
 wpAny (model C.prog C.w) A (inplaceOp .Add u v) Q E s := by
 unfold addF at o
 split at o
 · obtain ⟨t, rfl⟩ := i₁.int_inv
   obtain ⟨t', rfl⟩ := i₂.int_inv
   exact iadd_int (OutX.same o _ R (.int _ _))
 · exact o.elim
set_option tactic.hygienic true in
theorem SndT.aug (S : FnS sc nm gn) {x : Str} {p pos : Pos} {e : Expr} {d : DE} (i : Nat) (hx : nm[i]? = some x) (he : SndE C n sc nm e d) : SndT C n sc nm (.AugAssign (.Name x p) .Add e pos) (sAug i d) := by
 intro A qn L f cd cl s ad fr σ Q E ro R o
 have hv := SndE.var (C := C) (n := n) S i (pos := p) hx A qn L f cd cl s ad fr σ
 refine wpAny_AugAssign_Name ?_
 unfold sAug at o
 obtain ⟨m, F, hm⟩ := id R.fr
 unfold DV at o
 split at o
 · rename_i a e1
   obtain ⟨x', v', h1, h2, h3⟩ := hm i a e1
   rw [hx] at h1; cases h1
   have mem : x ∈ nm := List.mem_of_getElem? hx
   refine wpAny_loadName_local S.kind (S.loc x mem) F.ns h2 ?_
   refine he A qn L f cd cl s ad fr σ _ E ro R (OutS.then_ o fun b σ₁ v h₁ t₁ ad₁ R₁ x₁ i₁ o => ?_)
   refine add_rule R₁ (x₁.val h3) i₁ (OutS.then_ o fun c σ₂ u h₂ t₂ ad₂ R₂ x₂ i₂ o => ?_)
   exact storeName_rule S hx R₂ i₂ fun h' t R' x' => o .next h' t ad₂ R' x' trivial
 · exact o.elim
theorem setItem_plain {A : Around} {l : Addr} {items : Array Value} {m : Nat} {k : Int} {t : Tok} {v : Value} {Q : Unit → Shared → Prop} {E : Value → Shared → Prop} (ho : s.heap.get? l = some (listOf items m))
 (h0 : 0 ≤ k) (hfit : k < 2 ^ 63) (hn : k < items.size) (hQ : ∀ h', h'.PlainList l (items.setIfInBounds k.toNat v) → Heap.SameBut l s.heap h' → Q () { s with heap := h' }) :
 wpAny (model C.prog C.w) A (setItem (.ref l) (.int k t) v) Q E s := by
 have hT : s.TypeIs (.ref l) "list" := ⟨_, ho, rfl⟩
 unfold setItem
 refine wpAny_holding (wpAny_bind (wpAny_sequenceKey hT (by decide) (wpAny_bind (wpAny_callSpecial?_slot (name := Str.ofString "__setitem__") hT slot_list_setitem (wpAny_call_entry slot_list_setitem hT entry_list_setitem ?_ (args_list_setitem _ _ _))))))
 show wpAny _ _ (Builtin.List.listSubscript? (.int k t) >>= _) _ _ s
 refine wpAny_bind (wpAny_listSubscript_int (fitsIndex_of h0 hfit) ?_)
 clear hfit
 obtain ⟨j, rfl⟩ := Int.eq_ofNat_of_zero_le h0
 have hx : items[j]? = some (items[j]'(by tb_rel)) := Array.getElem?_eq_getElem (by tb_rel)
 show wpAny _ _ ((seqItemAt l j >>= fun r => pure (r.map (j, ·))) >>= _) _ _ s
 refine wpAny_bind (wpAny_bind (wpAny_seqItemAt ho rfl (wpAny_pure ?_)))
 rw [hx]
 refine wpAny_bind (wpAny_setSeqItemAt ho rfl (wpAny_pure ⟨.none, rfl, wpAny_pure (hQ _ ⟨_, Heap.get?_update_self _ ho rfl⟩ (Heap.SameBut.update ..))⟩))
end
end Mine
end
section
open PySem PySem.W PySem.Calls PyProof.Rows
namespace Mine
theorem KVAll.put {κ K : Type} [DecidableEq κ] [DecidableEq K] {enc : κ → K} (inj : ∀ x y, enc x = enc y → x = y) {ad : Adr} {h : Heap} (k : κ) {v : Value} {a : AV} (hv : VIn ad h v a) {kvs : List (K × Value)} {es : List (κ × AV)} (x : KVAll enc ad h kvs es) :
 KVAll enc ad h (kvs.map fun kv => if kv.1 = enc k then (kv.1, v) else kv) (es.map fun e => if e.1 = k then (e.1, a) else e) := by
 induction x with
 | nil => exact .nil
 | @cons k' w b kvs es hw _ ih =>
  simp only [List.map_cons]
  by_cases e : k' = k
  · subst e
    simp only [if_true]
    exact .cons hv ih
  · rw [if_neg (fun q => e (inj _ _ q)), if_neg e]
    exact .cons hw ih
theorem KVAll.append {κ K : Type} {enc : κ → K} {ad : Adr} {h : Heap} {kvs kvs' : List (K × Value)} {es es' : List (κ × AV)} (x : KVAll enc ad h kvs es) (y : KVAll enc ad h kvs' es') : KVAll enc ad h (kvs ++ kvs') (es ++ es') := by
 induction x with
 | nil => exact y
 | cons hw _ ih => exact .cons hw ih
theorem KVAll.any' {κ K : Type} [DecidableEq κ] [DecidableEq K] {enc : κ → K} (inj : ∀ x y, enc x = enc y → x = y) {ad : Adr} {h : Heap} (k : κ) {kvs : List (K × Value)} {es : List (κ × AV)} (x : KVAll enc ad h kvs es) :
 (kvs.any fun kv => decide (kv.1 = enc k)) = es.any fun e => decide (e.1 = k) := by
 induction x with
 | nil => rfl
 | @cons k' w b kvs es hw _ ih =>
  simp only [List.any_cons, ih]
  congr 1
  by_cases e : k' = k
  · subst e; simp
  · rw [decide_eq_false e, decide_eq_false fun q => e (inj _ _ q)]
theorem KVAll.setAt {κ K : Type} [DecidableEq κ] [DecidableEq K] {enc : κ → K} (inj : ∀ x y, enc x = enc y → x = y) {ad : Adr} {h : Heap} (k : κ) {v : Value} {a : AV} (hv : VIn ad h v a) {kvs : List (K × Value)} {es : List (κ × AV)} (x : KVAll enc ad h kvs es) :
 KVAll enc ad h (stored kvs (enc k) v) (setAt k a es) := by
 unfold stored Mine.setAt
 rw [x.any' inj]
 split
 · exact x.put inj k hv
 · exact x.append (.cons hv .nil)
theorem KVAll.length {κ K : Type} {enc : κ → K} {ad : Adr} {h : Heap} {kvs : List (K × Value)} {es : List (κ × AV)} (x : KVAll enc ad h kvs es) : kvs.length = es.length := by
 induction x with
 | nil => rfl
 | cons _ _ ih => simp [ih]
theorem KPAll.length {ad : Adr} {h : Heap} {kvs : List (List Int × Addr × Value)} {es : List ((Int × Int) × AV)} (x : KPAll ad h kvs es) : kvs.length = es.length := by
 induction x with
 | nil => rfl
 | cons _ _ ih => simp [ih]
theorem KPAll.find {ad : Adr} {h : Heap} (i j : Int) {kvs : List (List Int × Addr × Value)} {es : List ((Int × Int) × AV)} (x : KPAll ad h kvs es) :
 match es.find? (fun e => decide (e.1 = (i, j))) with
 | some e => ∃ y, atKey kvs [i, j] = some y ∧ VIn ad h y.2 e.2
 | none => atKey kvs [i, j] = none := by
 induction x with
 | nil => rfl
 | @cons i' j' b v a kvs es hv _ ih =>
  simp only [List.find?_cons]
  by_cases e : (i', j') = (i, j)
  · cases e
    simp only [decide_true, atKey, List.find?_cons]
    exact ⟨(b, v), by simp, hv⟩
  · have e' : ¬ [i', j'] = [i, j] := fun q => e (by injection q with q1 q2; injection q2 with q2; rw [q1, q2])
    simp only [decide_eq_false e]
    have z : atKey (([i', j'], b, v) :: kvs) [i, j] = atKey kvs [i, j] := by simp only [atKey, List.find?_cons, decide_eq_false e']
    rw [z]; exact ih
theorem KPAll.put {ad : Adr} {h : Heap} {i j : Int} {v : Value} {a : AV} (hv : VIn ad h v a) {kvs : List (List Int × Addr × Value)} {es : List ((Int × Int) × AV)} (x : KPAll ad h kvs es) :
 KPAll ad h (kvs.map (putAt [i, j] v)) (es.map fun e => if e.1 = (i, j) then (e.1, a) else e) := by
 induction x with
 | nil => exact .nil
 | @cons i' j' b w b' kvs es hw _ ih =>
  simp only [List.map_cons, putAt]
  by_cases e : (i', j') = (i, j)
  · cases e
    simp only [if_true]
    exact .cons hv ih
  · have e' : ¬ [i', j'] = [i, j] := fun q => e (by injection q with q1 q2; injection q2 with q2; rw [q1, q2])
    rw [if_neg e', if_neg e]
    exact .cons hw ih
theorem KPAll.append {ad : Adr} {h : Heap} {kvs kvs' : List (List Int × Addr × Value)} {es es' : List ((Int × Int) × AV)} (x : KPAll ad h kvs es) (y : KPAll ad h kvs' es') : KPAll ad h (kvs ++ kvs') (es ++ es') := by
 induction x with
 | nil => exact y
 | cons hw _ ih => exact .cons hw ih
set_option tactic.hygienic true in
theorem KPAll.setAt {ad : Adr} {h : Heap} {i j : Int} {b : Addr} {v : Value} {a : AV} (hv : VIn ad h v a) {kvs : List (List Int × Addr × Value)} {es : List ((Int × Int) × AV)} (x : KPAll ad h kvs es) :
 KPAll ad h (storedH kvs [i, j] b v) (setAt (i, j) a es) := by
 unfold storedH Mine.setAt
 have z := x.find i j
 have q : (atKey kvs [i, j]).isSome = es.any fun e => decide (e.1 = (i, j)) := by
  split at z
  · rename_i e he
    obtain ⟨y, h1, _⟩ := z
    rw [h1]
    exact (List.any_eq_true.mpr ⟨e, List.mem_of_find?_eq_some he, List.find?_some (p := fun (e : (Int × Int) × AV) => decide (e.1 = (i, j))) he⟩).symm
  · rename_i he
    rw [z]
    have := List.find?_eq_none.mp he
    symm
    simpa [List.any_eq_false] using this
 rw [q]
 split
 · exact x.put hv
 · exact x.append (.cons hv .nil)
section
variable {C : Ctx} {n : Nat} {sc : Scope} {nm gn : List Str} {L : Addr} {s : Shared} {ad ad₁ : Adr} {fr : Frame} {σ : Store} {Q : Flow → Shared → Prop} {E : Value → Shared → Prop} {h₁ : Heap} {t₁ : Nat}
theorem RF.turn {h h' : Heap} (R : RF C nm L h ad fr σ) {j : Nat} {p : Addr × Addr} {ao : AO} (hp : ad[j]? = some p) (sb : Heap.SameBut p.1 h h') (g : ∃ o, h'.get? p.1 = some o) (ho : OIn C ad h' p ao) :
 RF C nm L h' ad fr (σ.set j ao) ∧ Ext ad [L] h ad h' := by
 have k : ∀ b o, h.get? b = some o → b ≠ p.1 → b ≠ p.2 → h'.get? b = some o := fun b o e h1 _ => sameBut_keeps sb b o e h1
 have gr : ∀ b o, h.get? b = some o → ∃ o', h'.get? b = some o' := fun b o e => by
  by_cases q : b = p.1
  · subst q; exact g
  · exact ⟨o, sameBut_keeps sb b o e q⟩
 exact ⟨R.upd hp k gr ho, Ext.upd R.st hp k gr⟩
theorem SIn.tupsBut {h h' : Heap} (S : SIn C ad σ h) {j : Nat} {p : Addr × Addr} (hp : ad[j]? = some p) (sb : Heap.SameBut p.1 h h') : ∀ a vs k, h.get? a = some (tupObj vs k) → h'.get? a = some (tupObj vs k) :=
 fun a vs k e => sameBut_keeps sb a _ e fun q => S.notTuple e ⟨p, List.mem_of_getElem? hp, .inl q⟩
set_option tactic.hygienic true in
theorem setItem_rule {A : Around} {b k a : AV} {ob iv v : Value} {Q : Unit → Shared → Prop} {E : Value → Shared → Prop} (ro : Room n A) (R : RF C nm L s.heap ad fr σ) (i₁ : VIn ad s.heap ob b) (i₂ : VIn ad s.heap iv k) (i₃ : VIn ad s.heap v a)
 (o : OutG C nm L s ad Q (setItemF b k a fr σ)) : wpAny (model C.prog C.w) A (setItem ob iv v) Q E s := by
 unfold setItemF at o
 split at o
 · rename_i j
   obtain ⟨p, hp, rfl⟩ := i₁.loc_inv
   split at o
   · rename_i xs k e
     split at o
     · rename_i hk
       obtain ⟨t, rfl⟩ := i₂.int_inv
       obtain ⟨pe, vs, m, g, r⟩ := R.st.at hp e
       have hl := r.length
       refine setItem_plain g hk.1 (by tb_rel) (by simp [hl]; exact hk.2.1) fun h' pl sb => ?_
       obtain ⟨m', g'⟩ := pl
       have tk := R.st.tupsBut hp sb
       have z := R.turn (ao := .list (xs.set k.toNat a)) hp sb ⟨_, g'⟩ ⟨pe, vs.set k.toNat v, m', by rw [g', List.setIfInBounds_toArray], VAll.set (i₃.mono (fun _ _ e => e) tk) (r.mono (fun _ _ e => e) tk)⟩
       exact o h' s.toks ad z.1 z.2
     · exact o.elim
   · rename_i es k e
     split at o
     · rename_i hl
       obtain ⟨t, rfl⟩ := i₂.str_inv
       obtain ⟨pe, kvs, D, r⟩ := R.st.at hp e
       refine wpAny_setItem_pairs (strKind_is _ _ _ _) D (fun h' D' sb => ?_) (by rw [r.length]; exact hl)
       have tk := R.st.tupsBut hp sb
       obtain ⟨od, _, _, gd, _⟩ := id D'
       have z := R.turn (ao := .dictS (setAt k a es)) hp sb ⟨_, gd⟩ ⟨pe, _, D', KVAll.setAt (fun _ _ => encS_inj) k (i₃.mono (fun _ _ e => e) tk) (r.mono (fun _ _ e => e) tk)⟩
       exact o h' _ ad z.1 z.2
     · exact o.elim
   · rename_i es k e
     split at o
     · rename_i hl
       obtain ⟨t, rfl⟩ := i₂.int_inv
       obtain ⟨pe, kvs, D, r⟩ := R.st.at hp e
       refine wpAny_setItem_pairs (intKind_is _ _ _ _) D (fun h' D' sb => ?_) (by rw [r.length]; exact hl)
       have tk := R.st.tupsBut hp sb
       obtain ⟨od, _, _, gd, _⟩ := id D'
       have z := R.turn (ao := .dictI (setAt k a es)) hp sb ⟨_, gd⟩ ⟨pe, _, D', KVAll.setAt (enc := id) (fun _ _ q => q) k (i₃.mono (fun _ _ e => e) tk) (r.mono (fun _ _ e => e) tk)⟩
       exact o h' _ ad z.1 z.2
     · exact o.elim
   · rename_i es k l e
     split at o
     · rename_i hl
       obtain ⟨b, us, m, rfl, g, ru⟩ := i₂.tup_inv
       obtain ⟨pe, kvs, D, r, tk0⟩ := R.st.at hp e
       cases ru with
       | cons x1 ru =>
       cases ru with
       | cons x2 ru =>
       cases ru
       obtain ⟨t1, rfl⟩ := x1.int_inv
       obtain ⟨t2, rfl⟩ := x2.int_inv
       refine wpAny_setItem_heap (knd := tupleKind (intKind C.prog C.w)) (k := [k, l]) ?_ ⟨_, _, _, g, rfl, rfl, .cons (intKind_is _ _ _ _) (.cons (intKind_is _ _ _ _) .nil)⟩ D (fun h' D' sb => ?_) (by rw [r.length]; exact hl)
       · have := ro.units
         show A.units + 1 < cLine
         tb_rel
       have tk := R.st.tupsBut hp sb
       obtain ⟨od, _, _, gd, _⟩ := id D'
       have z := R.turn (ao := .dictP (setAt (k, l) a es)) hp sb ⟨_, gd⟩ ⟨pe, _, D', KPAll.setAt (i₃.mono (fun _ _ e => e) tk) (r.mono (fun _ _ e => e) tk), fun x hx => ?_⟩
       · exact o h' _ ad z.1 z.2
       · unfold storedH at hx
         split at hx
         · obtain ⟨y, hy, rfl⟩ := List.mem_map.mp hx
           obtain ⟨vs, n, q⟩ := tk0 y hy
           refine ⟨vs, n, tk _ _ _ ?_⟩
           unfold putAt
           split <;> exact q
         · rcases List.mem_append.mp hx with hx | hx
           · obtain ⟨vs, n, q⟩ := tk0 x hx
             exact ⟨vs, n, tk _ _ _ q⟩
           · rw [List.mem_singleton.mp hx]
             exact ⟨_, _, tk _ _ _ g⟩
     · exact o.elim
   · exact o.elim
 · exact o.elim
theorem SndT.setItem {v ob i : Expr} {tp pos : Pos} {d e f : DE} (hs : ∀ env, swapsWith v (some (.Subscript ob i tp)) pos.line env = pure false) (hv : SndE C n sc nm v d) (ho : SndE C n sc nm ob e) (hi : SndE C n sc nm i f) :
 SndT C n sc nm (.Assign [.Subscript ob i tp] v pos) (sSetItem d e f) := by
 intro A qn L fa cd cl s ad fr σ Q E ro R o
 refine wpAny_Assign_Subscript (hv A qn L fa cd cl s ad fr σ _ E ro R (OutS.then_ o fun a σ₁ v h₁ t₁ ad₁ R₁ x₁ i₁ o => ?_)) (hs _)
 refine ho A qn L fa cd cl _ ad₁ fr σ₁ _ E ro R₁ (OutS.then_ o fun b σ₂ u h₂ t₂ ad₂ R₂ x₂ i₂ o => ?_)
 refine hi A qn L fa cd cl _ ad₂ fr σ₂ _ E ro R₂ (OutS.then_ o fun k σ₃ w h₃ t₃ ad₃ R₃ x₃ i₃ o => ?_)
 exact setItem_rule ro.toRoom R₃ (x₃.val i₂) i₃ ((x₂.trans x₃).val i₁) o.toG
noncomputable def itemL (a b : AV) (σ : Store) : Res AV := match a with | .loc _ => itemF a b σ | _ => .stuck
set_option tactic.hygienic true in
theorem getItem_list_rule {A : Around} {a b : AV} {u v : Value} {Q : Value → Shared → Prop} {E : Value → Shared → Prop} (R : RF C nm L s.heap ad fr σ) (i₁ : VIn ad s.heap u a) (i₂ : VIn ad s.heap v b) (o : OutX C nm L s ad fr VIn Q E (itemL a b σ)) :
 wpAny (model C.prog C.w) A (getItem u v) Q E s := by
 unfold itemL at o
 split at o
 · rename_i j
   obtain ⟨p, hp, rfl⟩ := i₁.loc_inv
   unfold itemF at o
   split at o
   · rename_i j' i ej
     cases ej
     obtain ⟨t, rfl⟩ := i₂.int_inv
     split at o
     · rename_i xs e
       split at o
       · rename_i h0
         split at o
         · rename_i w hw
           split at o
           · rename_i hl
             obtain ⟨vs, k, g, r⟩ := R.st.list hp e
             obtain ⟨z, hz, iz⟩ := r.get hw
             have hlt := (List.getElem?_eq_some_iff.mp hw).1
             exact wpAny_getItem_list ⟨_, g, rfl, _, rfl⟩ h0 (by tb_rel) (by simpa using hz) (OutX.here o R .refl iz)
           · exact o.elim
         · exact o.elim
       · exact o.elim
     · rename_i es e
       split at o
       · rename_i en hen
         obtain ⟨_, kvs, D, r⟩ := R.st.at hp e
         have z := KVAll.find (enc := id) (fun _ _ q => q) i r
         rw [hen] at z
         obtain ⟨w, h1, h2⟩ := z
         exact wpAny_getItem_of (intKind_is _ _ _ _) D.mapOf h1 (OutX.same o _ R h2)
       · exact o.elim
     · exact o.elim
   · rename_i q; exact AV.noConfusion q
   · rename_i q; exact AV.noConfusion q
   · exact o.elim
 · exact o.elim
noncomputable def sAugItem' (o i v : DE) : DS := fun fr σ => (o fr σ).then_ fr fun b σ => (i fr σ).then_ fr fun k σ => (itemL b k σ).then_ fr fun old σ => (v fr σ).then_ fr fun a σ => (addF old a σ).then_ fr fun c σ => (setItemF b k c fr σ).on
theorem SndT.augItem {v ob i : Expr} {tp pos : Pos} {d e f : DE} (hs : ∀ ov iv new, augStore i ov iv new = (do holding [new, ov, iv] (PySem.setItem ov iv new); release [new, ov, iv] []; pure Flow.next)) (ho : SndE C n sc nm ob e) (hi : SndE C n sc nm i f) (hv : SndE C n sc nm v d) :
 SndT C n sc nm (.AugAssign (.Subscript ob i tp) .Add v pos) (sAugItem' e f d) := by
 intro A qn L fa cd cl s ad fr σ Q E ro R o
 refine wpAny_AugAssign_SubscriptAny (ho A qn L fa cd cl s ad fr σ _ E ro R (OutS.then_ o fun b σ₁ ob h₁ t₁ ad₁ R₁ x₁ i₁ o => ?_)) hs
 refine hi A qn L fa cd cl _ ad₁ fr σ₁ _ E ro R₁ (OutS.then_ o fun k σ₂ iv h₂ t₂ ad₂ R₂ x₂ i₂ o => ?_)
 refine getItem_list_rule R₂ (x₂.val i₁) i₂ (OutS.then_ o fun old σ₃ w h₃ t₃ ad₃ R₃ x₃ i₃ o => ?_)
 refine hv A qn L fa cd cl _ ad₃ fr σ₃ _ E ro R₃ (OutS.then_ o fun a σ₄ v h₄ t₄ ad₄ R₄ x₄ i₄ o => ?_)
 refine add_rule R₄ (x₄.val i₃) i₄ (OutS.then_ o fun c σ₅ u h₅ t₅ ad₅ R₅ x₅ i₅ o => ?_)
 exact setItem_rule ro.toRoom R₅ ((x₂.trans (x₃.trans (x₄.trans x₅))).val i₁) ((x₃.trans (x₄.trans x₅)).val i₂) i₅ o.toG
end
end Mine
end
section
open PySem PySem.W PySem.Calls PyProof.Rows
namespace Mine
noncomputable def sliceL (n : Nat) (lo hi st : AV) (σ : Store) : Res AV := match lo, hi, st with
 | .none, .int j, .none => (match σ[n]? with
  | some (.list xs) => if 0 ≤ j ∧ xs.length ≤ 1000 then .ok (.loc σ.length) (σ ++ [.list (xs.take j.toNat)]) else .stuck
  | _ => .stuck)
 | .int i, .none, .none => (match σ[n]? with
  | some (.list xs) => if 0 ≤ i ∧ xs.length ≤ 1000 then .ok (.loc σ.length) (σ ++ [.list (xs.drop i.toNat)]) else .stuck
  | _ => .stuck)
 | .none, .none, .int c => (match σ[n]? with
  | some (.list xs) => if c = -1 ∧ xs.length ≤ 1000 then .ok (.loc σ.length) (σ ++ [.list xs.reverse]) else .stuck
  | _ => .stuck)
 | _, _, _ => .stuck
noncomputable def sliceS (cs : List Nat) (lo hi st : AV) (σ : Store) : Res AV := match lo, hi, st with
 | .none, .int j, .none => if 0 ≤ j ∧ j ≤ cs.length ∧ cs.length ≤ 1000 then .ok (.str (cs.take j.toNat)) σ else .stuck
 | .int i, .none, .none => if 0 ≤ i ∧ i ≤ cs.length ∧ cs.length ≤ 1000 then .ok (.str (cs.drop i.toNat)) σ else .stuck
 | .int i, .int j, .none => if 0 ≤ i ∧ i ≤ cs.length ∧ i ≤ j ∧ cs.length ≤ 1000 then .ok (.str ((cs.drop i.toNat).take (j - i).toNat)) σ else .stuck
 | _, _, _ => .stuck
noncomputable def sliceF (a lo hi st : AV) (σ : Store) : Res AV := match a with
 | .loc n => sliceL n lo hi st σ
 | .str cs => sliceS cs lo hi st σ
 | _ => .stuck
noncomputable def dSlice (d lo hi st : DE) : DE := fun fr σ => (d fr σ).bind fun a σ => (lo fr σ).bind fun l σ => (hi fr σ).bind fun h σ => (st fr σ).bind fun t σ => sliceF a l h t σ
theorem txt_ns {cs : List Nat} {j : Int} (h0 : 0 ≤ j) (h1 : j ≤ cs.length) : Txt.slice ⟨cs.toArray⟩ none (some j) = ⟨(cs.take j.toNat).toArray⟩ := by
 have := eq_of_beq (slice_closes_to (x := ⟨cs.toArray⟩) (j := j) ⟨h0, by simpa using h1⟩)
 simpa using this
theorem txt_sn {cs : List Nat} {i : Int} (h0 : 0 ≤ i) (h1 : i ≤ cs.length) : Txt.slice ⟨cs.toArray⟩ (some i) none = ⟨(cs.drop i.toNat).toArray⟩ := by
 have := eq_of_beq (slice_closes_from (x := ⟨cs.toArray⟩) (i := i) ⟨h0, by simpa using h1⟩)
 rw [this]
 show (⟨((cs.drop i.toNat).take ((cs.length : Int) - i).toNat).toArray⟩ : Str) = _
 rw [List.take_of_length_le (by simp; tb_rel)]
theorem txt_clip {x : Str} {i j : Int} (h : (x.length : Int) ≤ j) : Txt.slice x (some i) (some j) = Txt.slice x (some i) (some (x.length : Int)) := by
 have e : Builtin.Str.strSliceIndices (some i) (some j) 1 x.length = Builtin.Str.strSliceIndices (some i) (some (x.length : Int)) 1 x.length := by
  unfold Builtin.Str.strSliceIndices
  simp only [show (1 : Int) > 0 by decide, if_true]
  rw [if_neg (show ¬ j < 0 by tb_rel), if_neg (show ¬ (x.length : Int) < 0 by tb_rel), Int.min_eq_right h, Int.min_eq_left (Int.le_refl _)]
 unfold Txt.slice
 rw [e]
theorem txt_ss {cs : List Nat} {i j : Int} (h0 : 0 ≤ i) (h1 : i ≤ cs.length) (h2 : i ≤ j) : Txt.slice ⟨cs.toArray⟩ (some i) (some j) = ⟨((cs.drop i.toNat).take (j - i).toNat).toArray⟩ := by
 have l : Str.length ⟨cs.toArray⟩ = cs.length := by simp [Str.length]
 by_cases hj : j ≤ cs.length
 · have := eq_of_beq (slice_closes (x := ⟨cs.toArray⟩) (i := i) (j := j) ⟨h0, h2, by simpa using hj⟩)
   simpa using this
 · rw [txt_clip (by rw [l]; tb_rel), l]
   have := eq_of_beq (slice_closes (x := ⟨cs.toArray⟩) (i := i) (j := (cs.length : Int)) ⟨h0, h1, by simp⟩)
   rw [this]
   show (⟨((cs.drop i.toNat).take ((cs.length : Int) - i).toNat).toArray⟩ : Str) = _
   rw [List.take_of_length_le (by simp; tb_rel), List.take_of_length_le (by simp; tb_rel)]
section
variable {C : Ctx} {n : Nat} {sc : Scope} {nm gn : List Str} {L : Addr} {s : Shared} {ad ad₁ : Adr} {fr : Frame} {σ : Store} {h₁ : Heap} {t₁ : Nat}
noncomputable def SndP (C : Ctx) (n : Nat) (sc : Scope) (nm : List Str) (e : Option Expr) (d : DE) : Prop :=
 ∀ (A : Around) (qn : Str) (L f : Addr) (cd : Value) (cl : List (Str × Addr)) (s : Shared) (ad : Adr) (fr : Frame) (σ : Store) (Q : Value → Shared → Prop) (E : Value → Shared → Prop),
  RoomL C n A L cl → RF C nm L s.heap ad fr σ → OutE C nm L s ad fr Q E (d fr σ) → wpAny (model C.prog C.w) A (evalPart e (envX qn sc L f cd cl)) Q E s
theorem SndP.none : SndP C n sc nm Option.none (DC .none) := fun A qn L f cd cl s ad fr σ Q E ro R o => wpAny_pure (OutX.here o R .refl .none)
theorem SndP.some {e : Expr} {d : DE} (h : SndE C n sc nm e d) : SndP C n sc nm (Option.some e) d := fun A qn L f cd cl s ad fr σ Q E ro R o => h A qn L f cd cl s ad fr σ Q E ro R o
theorem strSlice_rule {A : Around} {cs : List Nat} {t : Tok} {lo hi : Option (Int × Tok)} {value slice : Expr} {ops : List Value} {s' : Shared} {a : Addr} {Q : Value → Shared → Prop} {E : Value → Shared → Prop} (hl : cs.length ≤ 1000)
 (hs : s'.heap.IsSlice a lo hi none) (hq : ∀ t' k, Q (.str (Txt.slice ⟨cs.toArray⟩ (lo.map (·.1)) (hi.map (·.1))) t') { s' with toks := k })
 (hx : subscripted slice false (.str ⟨cs.toArray⟩ t) (.ref a) = operate ops (getItem (.str ⟨cs.toArray⟩ t) (.ref a))) (ht : ∀ r, letTemporaryGo value (.str ⟨cs.toArray⟩ t) r = pure ()) :
 wpAny (model C.prog C.w) A (subscriptTail value slice (.str ⟨cs.toArray⟩ t) (.ref a)) Q E s' := by
 have sz : sizeLine = 16777216 := by decide
 have h1 : (Txt.slice ⟨cs.toArray⟩ (lo.map (·.1)) (hi.map (·.1))).length ≤ sizeLine := Nat.le_trans (Txt.slice_le _ _ _) (by simp [Str.length]; tb_rel)
 refine subscriptTail_ops (typeIs_str _ _ _) F.slot_str_getitem.lookup (wpAny_getItem_str_slice hs rfl ?_) hx ht
 unfold Txt.slice at hq h1
 exact post_val_or_str ⟨h1, hq⟩
set_option tactic.hygienic true in
theorem slice_rule {A : Around} {a lo hi st : AV} {u vl vh vs : Value} {value slice : Expr} {Q : Value → Shared → Prop} {E : Value → Shared → Prop} (hx : ∀ o i, ∃ ops, subscripted slice false o i = operate ops (getItem o i)) (ht : ∀ o r, letTemporaryGo value o r = pure ())
 (R : RF C nm L s.heap ad fr σ) (iu : VIn ad s.heap u a) (il : VIn ad s.heap vl lo) (ih : VIn ad s.heap vh hi) (is : VIn ad s.heap vs st) (o : OutE C nm L s ad fr Q E (sliceF a lo hi st σ)) :
 wpAny (model C.prog C.w) A (subscriptTail value slice u (.ref s.heap.objs.size)) Q E { s with heap := s.heap.push { cls := .type "slice", data := .fields #[vl, vh, vs] } } := by
 have sz : sizeLine = 16777216 := by decide
 have kp := push_keeps s.heap { cls := .type "slice", data := .fields #[vl, vh, vs] }
 obtain ⟨ops, hx⟩ := hx u (.ref s.heap.objs.size)
 -- a list of its own is made
 have mk : ∀ {p : Addr × Addr} {j : Nat} {xs ys : List AV} {vs' ws : List Value} {m : Nat} {lo' hi' st' : Option Int}, ad[j]? = some p → u = .ref p.1 → σ[j]? = some (.list xs) → s.heap.get? p.1 = some (listOf vs'.toArray m) → xs.length ≤ 1000 → VAll ad s.heap vs' xs → VAll ad s.heap ws ys →
  IsPart vl lo' → IsPart vh hi' → IsPart vs st' → st' ≠ some 0 → slicePick vs'.toArray lo' hi' st' = ws.toArray → OutE C nm L s ad fr Q E (.ok (.loc σ.length) (σ ++ [.list ys])) →
  wpAny (model C.prog C.w) A (subscriptTail value slice u (.ref s.heap.objs.size)) Q E { s with heap := s.heap.push { cls := .type "slice", data := .fields #[vl, vh, vs] } } := by
  intro p j xs ys vs' ws m lo' hi' st' hp hu e g hl r ry pl ph ps h0 hpick o
  subst hu
  have hl2 : (s.heap.push { cls := .type "slice", data := .fields #[vl, vh, vs] }).IsList p.1 vs'.toArray := ⟨_, kp _ _ g, rfl, m, rfl⟩
  refine subscriptTail_ops (Heap.IsList.typeIs (s := { s with heap := s.heap.push { cls := .type "slice", data := .fields #[vl, vh, vs] } }) hl2) list_getitem_lookup (wpAny_getItem_list_slice hl2 (Heap.IsSliceOf.new ..) pl ph ps h0 ?_ (by
   have := r.length
   rw [List.size_toArray]; tb_rel)) hx (ht _)
  rw [hpick]
  have z := (R.keeps kp).pushNew { cls := .type "list", data := .seq ws.toArray } rfl (ao := .list ys) fun g => ⟨rfl, ws, 0, g, (ry.mono (fun _ _ e => e) fun _ _ _ e => kp _ _ e).mono idx_more fun _ _ _ e => push_keeps _ _ _ _ e⟩
  exact OutX.here o z.1 ((Ext.keeps kp).trans z.2) (loc_new (R.keeps kp) _)
 -- a text
 have mkS : ∀ {cs : List Nat} {t : Tok} {l' h' : Option (Int × Tok)} {ds : List Nat}, cs.length ≤ 1000 → u = .str ⟨cs.toArray⟩ t → vl = partValue l' → vh = partValue h' → vs = .none → Txt.slice ⟨cs.toArray⟩ (l'.map (·.1)) (h'.map (·.1)) = ⟨ds.toArray⟩ → OutE C nm L s ad fr Q E (.ok (.str ds) σ) →
  wpAny (model C.prog C.w) A (subscriptTail value slice u (.ref s.heap.objs.size)) Q E { s with heap := s.heap.push { cls := .type "slice", data := .fields #[vl, vh, vs] } } := by
  intro cs t l' h' ds hl hu hvl hvh hvs e o
  subst hu hvl hvh hvs
  refine strSlice_rule hl (lo := l') (hi := h') ⟨_, Heap.get?_push_size _ rfl, rfl, rfl⟩ (fun t' k => ?_) hx (ht _)
  rw [e]
  exact OutX.here o (R.keeps kp) (Ext.keeps kp) (.str ds t')
 unfold sliceF at o
 split at o
 · unfold sliceL at o
   split at o
   · rename_i j k
     split at o
     · rename_i xs e
       split at o
       · rename_i hc
         obtain ⟨p, hp, hu⟩ := iu.loc_inv
         obtain ⟨vs', m, g, r⟩ := R.st.list hp e
         obtain rfl := il.none_inv
         obtain ⟨t, rfl⟩ := ih.int_inv
         obtain rfl := is.none_inv
         refine mk hp hu e g hc.2 r (r.take k.toNat) .none (.int _ _) .none (by simp) ?_ o
         have z := slicePick_upto' vs'.toArray k.toNat
         rw [Int.toNat_of_nonneg hc.1] at z
         exact z
       · exact o.elim
     · exact o.elim
   · rename_i j k
     split at o
     · rename_i xs e
       split at o
       · rename_i hc
         obtain ⟨p, hp, hu⟩ := iu.loc_inv
         obtain ⟨vs', m, g, r⟩ := R.st.list hp e
         obtain ⟨t, rfl⟩ := il.int_inv
         obtain rfl := ih.none_inv
         obtain rfl := is.none_inv
         refine mk hp hu e g hc.2 r (r.drop k.toNat) (.int _ _) .none .none (by simp) ?_ o
         have z := slicePick_from' vs'.toArray k.toNat
         rw [Int.toNat_of_nonneg hc.1] at z
         exact z
       · exact o.elim
     · exact o.elim
   · rename_i j c
     split at o
     · rename_i xs e
       split at o
       · rename_i hc
         obtain ⟨p, hp, hu⟩ := iu.loc_inv
         obtain ⟨vs', m, g, r⟩ := R.st.list hp e
         obtain rfl := il.none_inv
         obtain rfl := ih.none_inv
         obtain ⟨t, rfl⟩ := is.int_inv
         obtain ⟨rfl, hl⟩ := hc
         exact mk hp hu e g hl r r.reverse .none .none (.int _ _) (by decide) (krv_pick _) o
       · exact o.elim
     · exact o.elim
   · exact o.elim
 · unfold sliceS at o
   split at o
   · split at o
     · rename_i cs j hc
       obtain ⟨t, hu⟩ := iu.str_inv
       have hl := il.none_inv
       obtain ⟨t', hh⟩ := ih.int_inv
       have hst := is.none_inv
       exact mkS (l' := none) (h' := some (j, t')) hc.2.2 hu hl hh hst (txt_ns hc.1 hc.2.1) o
     · exact o.elim
   · split at o
     · rename_i cs j hc
       obtain ⟨t, hu⟩ := iu.str_inv
       have hh := ih.none_inv
       obtain ⟨t', hl⟩ := il.int_inv
       have hst := is.none_inv
       exact mkS (l' := some (j, t')) (h' := none) hc.2.2 hu hl hh hst (txt_sn hc.1 hc.2.1) o
     · exact o.elim
   · split at o
     · rename_i cs i j hc
       obtain ⟨t, hu⟩ := iu.str_inv
       obtain ⟨t', hl⟩ := il.int_inv
       obtain ⟨t2, hh⟩ := ih.int_inv
       have hst := is.none_inv
       exact mkS (l' := some (i, t')) (h' := some (j, t2)) hc.2.2.2 hu hl hh hst (txt_ss hc.1 hc.2.1 hc.2.2.1) o
     · exact o.elim
   · exact o.elim
 · exact o.elim
theorem SndE.slice {e : Expr} {lo hi st : Option Expr} {p pos : Pos} {d dl dh ds : DE} (hx : ∀ o i, ∃ ops, subscripted (.Slice lo hi st p) false o i = operate ops (getItem o i)) (ht : ∀ o r, letTemporaryGo e o r = pure ())
 (he : SndE C n sc nm e d) (hl : SndP C n sc nm lo dl) (hh : SndP C n sc nm hi dh) (hs : SndP C n sc nm st ds) : SndE C n sc nm (.Subscript e (.Slice lo hi st p) pos) (dSlice d dl dh ds) := by
 intro A qn L f cd cl s ad fr σ Q E ro R o
 refine Subscript_ (he A qn L f cd cl s ad fr σ _ E ro R (OutX.bind o fun a σ₁ v h₁ t₁ ad₁ R₁ x₁ i₁ o => ?_))
 refine wpAny_Slice (hl A qn L f cd cl _ ad₁ fr σ₁ _ E ro R₁ (OutX.bind o fun b σ₂ u h₂ t₂ ad₂ R₂ x₂ i₂ o => ?_))
 refine hh A qn L f cd cl _ ad₂ fr σ₂ _ E ro R₂ (OutX.bind o fun b σ₃ u3 h₃ t₃ ad₃ R₃ x₃ i₃ o => ?_)
 refine hs A qn L f cd cl _ ad₃ fr σ₃ _ E ro R₃ (OutX.bind o fun b σ₄ u4 h₄ t₄ ad₄ R₄ x₄ i₄ o => ?_)
 exact slice_rule hx ht R₄ ((x₂.trans (x₃.trans x₄)).val i₁) ((x₃.trans x₄).val i₂) (x₄.val i₃) i₄ o
end
end Mine
end
section
open PySem PySem.W PySem.Calls PyProof.Rows
namespace Mine
noncomputable def spLen : Spec := fun as σ => match as with
 | [.loc n] => (match σ[n]? with
  | some (.list xs) => if xs.length ≤ 2 ^ 24 then .ok (.int xs.length) σ else .stuck
  | _ => .stuck)
 | [.tup xs] => if xs.length ≤ 2 ^ 24 then .ok (.int xs.length) σ else .stuck
 | [.str xs] => if xs.length ≤ 2 ^ 24 then .ok (.int xs.length) σ else .stuck
 | _ => .stuck
noncomputable def spAbs : Spec := fun as σ => match as with
 | [.int i] => .ok (.int (if i < 0 then -i else i)) σ
 | _ => .stuck
noncomputable def spMin : Spec := fun as σ => match as with
 | [.int i, .int j] => .ok (.int (if j < i then j else i)) σ
 | _ => .stuck
noncomputable def spMax : Spec := fun as σ => match as with
 | [.int i, .int j] => .ok (.int (if j > i then j else i)) σ
 | _ => .stuck
noncomputable def spOrd : Spec := fun as σ => match as with
 | [.str [c]] => .ok (.int c) σ
 | _ => .stuck
noncomputable def spChr : Spec := fun as σ => match as with
 | [.int i] => if 0 ≤ i ∧ i ≤ 1114111 then .ok (.str [i.toNat]) σ else .stuck
 | _ => .stuck
noncomputable def spAppend : Spec := fun as σ => match as with
 | [.loc n, a] => (match σ[n]? with
  | some (.list xs) => if xs.length ≤ 1000 then .ok .none (σ.set n (.list (xs ++ [a]))) else .stuck
  | _ => .stuck)
 | _ => .stuck
noncomputable def spPop : Spec := fun as σ => match as with
 | [.loc n] => (match σ[n]? with
  | some (.list xs) => (match xs.getLast? with
   | some a => if xs.length ≤ 1000 then .ok a (σ.set n (.list xs.dropLast)) else .stuck
   | none => .stuck)
  | _ => .stuck)
 | _ => .stuck
noncomputable def spGet : Spec := fun as σ => match as with
 | [.loc n, k, d] => (match σ[n]?, k with
  | some (.dictS es), .str k => .ok (match es.find? fun e => decide (e.1 = k) with | some e => e.2 | none => d) σ
  | some (.dictP es), .tup [.int i, .int j] => .ok (match es.find? fun e => decide (e.1 = (i, j)) with | some e => e.2 | none => d) σ
  | _, _ => .stuck)
 | _ => .stuck
noncomputable def strsOf : List AV → Option (List (List Nat))
 | [] => some []
 | .str s :: r => (strsOf r).map (s :: ·)
 | _ :: _ => none
noncomputable def spJoin : Spec := fun as σ => match as with
 | [.str [], .loc n] => (match σ[n]? with
  | some (.list xs) => (match strsOf xs with
   | some ss => if ss.flatten.length ≤ 1000 then .ok (.str ss.flatten) σ else .stuck
   | none => .stuck)
  | _ => .stuck)
 | _ => .stuck
noncomputable def spIndex : Spec := fun as σ => match as with
 | [.str xs, .str [c]] => if 0 ≤ Txt.find ⟨xs.toArray⟩ ⟨#[c]⟩ then .ok (.int (Txt.find ⟨xs.toArray⟩ ⟨#[c]⟩)) σ else .stuck
 | _ => .stuck
theorem VAll.one_inv {ad : Adr} {h : Heap} {vs : List Value} {a : AV} (x : VAll ad h vs [a]) : ∃ v, vs = [v] ∧ VIn ad h v a := by
 cases x with | cons x r => cases r; exact ⟨_, rfl, x⟩
theorem VAll.two_inv {ad : Adr} {h : Heap} {vs : List Value} {a b : AV} (x : VAll ad h vs [a, b]) : ∃ v w, vs = [v, w] ∧ VIn ad h v a ∧ VIn ad h w b := by
 cases x with | cons x r => cases r with | cons y r => cases r; exact ⟨_, _, rfl, x, y⟩
theorem VAll.three_inv {ad : Adr} {h : Heap} {vs : List Value} {a b c : AV} (x : VAll ad h vs [a, b, c]) : ∃ v w u, vs = [v, w, u] ∧ VIn ad h v a ∧ VIn ad h w b ∧ VIn ad h u c := by
 cases x with | cons x r => cases r with | cons y r => cases r with | cons z r => cases r; exact ⟨_, _, _, rfl, x, y, z⟩
section
variable {C : Ctx} {n : Nat} {sc : Scope} {nm gn : List Str}
set_option tactic.hygienic true in
theorem bi_len : BiSnd C n "len" spLen := by
 intro nm A L s ad fr σ vs as Q E ro R i o
 unfold spLen at o
 split at o
 · obtain ⟨v, rfl, iv⟩ := i.one_inv
   split at o
   · rename_i j xs e
     split at o
     · rename_i hl
       obtain ⟨p, hp, rfl⟩ := iv.loc_inv
       obtain ⟨us, k, g, r⟩ := R.st.list hp e
       have lr := r.length
       refine len_list ⟨_, g, rfl, k, rfl⟩ (by rw [List.size_toArray]; tb_rel) (OutX.same o _ R ?_)
       rw [List.size_toArray, lr]; exact .int _ _
     · exact o.elim
   · exact o.elim
 · obtain ⟨v, rfl, iv⟩ := i.one_inv
   split at o
   · rename_i hl
     obtain ⟨b, us, k, rfl, g, r⟩ := iv.tup_inv
     have lr := r.length
     refine len_tuple ⟨_, g, rfl, k, rfl⟩ (by rw [List.size_toArray]; tb_rel) (OutX.same o _ R ?_)
     rw [List.size_toArray, lr]; exact .int _ _
   · exact o.elim
 · obtain ⟨v, rfl, iv⟩ := i.one_inv
   split at o
   · rename_i xs hl
     obtain ⟨t, rfl⟩ := iv.str_inv
     have l : Str.length ⟨xs.toArray⟩ = xs.length := by simp [Str.length]
     refine len_str (by rw [l]; tb_rel) (OutX.same o _ R ?_)
     rw [l]; exact .int _ _
   · exact o.elim
 · exact o.elim
theorem bi_abs : BiSnd C n "abs" spAbs := by
 intro nm A L s ad fr σ vs as Q E ro R i o
 unfold spAbs at o
 split at o
 · obtain ⟨v, rfl, iv⟩ := i.one_inv
   obtain ⟨t, rfl⟩ := iv.int_inv
   exact call_abs_int fun u tk => OutX.same o _ R (.int _ _)
 · exact o.elim
theorem bi_min (hq : 10 ≤ n) : BiSnd C n "min" spMin := by
 intro nm A L s ad fr σ vs as Q E ro R i o
 unfold spMin at o
 split at o
 · obtain ⟨v, w, rfl, iv, iw⟩ := i.two_inv
   obtain ⟨t, rfl⟩ := iv.int_inv
   obtain ⟨u, rfl⟩ := iw.int_inv
   obtain ⟨m, F, hm⟩ := id R.fr
   refine min_two_N (ro.quiet hq) F news_all fun h' tk F' N' => ?_
   have z := R.frame F hm F' (keeps_of_news F' F fun p hp => (N' p hp).1)
   exact OutX.here o z.1 z.2 (.int _ _)
 · exact o.elim
theorem bi_max (hq : 10 ≤ n) : BiSnd C n "max" spMax := by
 intro nm A L s ad fr σ vs as Q E ro R i o
 unfold spMax at o
 split at o
 · obtain ⟨v, w, rfl, iv, iw⟩ := i.two_inv
   obtain ⟨t, rfl⟩ := iv.int_inv
   obtain ⟨u, rfl⟩ := iw.int_inv
   obtain ⟨m, F, hm⟩ := id R.fr
   refine max_two_N (ro.quiet hq) F news_all fun h' tk F' N' => ?_
   have z := R.frame F hm F' (keeps_of_news F' F fun p hp => (N' p hp).1)
   exact OutX.here o z.1 z.2 (.int _ _)
 · exact o.elim
theorem bi_ord : BiSnd C n "ord" spOrd := by
 intro nm A L s ad fr σ vs as Q E ro R i o
 unfold spOrd at o
 split at o
 · obtain ⟨v, rfl, iv⟩ := i.one_inv
   obtain ⟨t, rfl⟩ := iv.str_inv
   exact ord_of_one rfl (OutX.same o _ R (.int _ _))
 · exact o.elim
theorem bi_chr : BiSnd C n "chr" spChr := by
 intro nm A L s ad fr σ vs as Q E ro R i o
 unfold spChr at o
 split at o
 · obtain ⟨v, rfl, iv⟩ := i.one_inv
   obtain ⟨t, rfl⟩ := iv.int_inv
   split at o
   · rename_i hc
     exact chr_of_range hc.1 hc.2 (OutX.same o _ R (.str [_] _))
   · exact o.elim
 · exact o.elim
set_option tactic.hygienic true in
theorem bi_append : BiSnd C n "list.append" spAppend := by
 intro nm A L s ad fr σ vs as Q E ro R i o
 unfold spAppend at o
 split at o
 · obtain ⟨v, w, rfl, iv, iw⟩ := i.two_inv
   split at o
   · rename_i j a _ xs e
     split at o
     · rename_i hl
       obtain ⟨p, hp, rfl⟩ := iv.loc_inv
       obtain ⟨pe, us, m, g, r⟩ := R.st.at hp e
       have lr := r.length
       have sz : sizeLine = 16777216 := by decide
       refine wpAny_list_append_plain ⟨m, g⟩ (fun h' pl sb => ?_) (by rw [List.size_toArray]; tb_rel)
       obtain ⟨m', g'⟩ := pl
       have tk := R.st.tupsBut hp sb
       have z := R.turn (ao := .list (xs ++ [a])) hp sb ⟨_, g'⟩ ⟨pe, us ++ [w], m', by rw [g', List.push_toArray], (r.mono (fun _ _ e => e) tk).snoc (iw.mono (fun _ _ e => e) tk)⟩
       exact OutX.here o z.1 z.2 .none
     · exact o.elim
   · exact o.elim
 · exact o.elim
set_option tactic.hygienic true in
theorem bi_pop : BiSnd C n "list.pop" spPop := by
 intro nm A L s ad fr σ vs as Q E ro R i o
 unfold spPop at o
 split at o
 · obtain ⟨v, rfl, iv⟩ := i.one_inv
   split at o
   · rename_i j xs e
     split at o
     · rename_i a ha
       split at o
       · rename_i hl
         obtain ⟨p, hp, rfl⟩ := iv.loc_inv
         obtain ⟨pe, us, m, g, r⟩ := R.st.at hp e
         have lr := r.length
         have sz : sizeLine = 16777216 := by decide
         -- the last value
         have hne : xs ≠ [] := by rintro rfl; simp at ha
         have hlast : xs[xs.length - 1]? = some a := by rw [← List.getLast?_eq_getElem?]; exact ha
         obtain ⟨y, hy, iy⟩ := r.get hlast
         have hus : us ≠ [] := by rintro rfl; simp at lr; exact hne (List.length_eq_zero_iff.mp lr.symm)
         have hsplit : us = us.dropLast ++ [y] := by
          have := List.dropLast_concat_getLast hus
          have e2 : us.getLast hus = y := by
           rw [← lr, ← List.getLast?_eq_getElem?, List.getLast?_eq_some_getLast hus] at hy
           exact Option.some.inj hy
          rw [e2] at this; exact this.symm
         have hk : (us.dropLast ++ [y]).toArray.size - 1 = us.dropLast.length := by rw [List.size_toArray, List.length_append]; rfl
         have hy' : us.toArray[us.toArray.size - 1]? = some y := by rw [hsplit, hk]; simp
         refine call_meets PySem.F.slot_list_pop ⟨_, g, rfl⟩ PySem.F.entry_list_pop (PySem.F.args_list_pop_1 _) (PySem.MeetsSeq.list_pop_last p.1 _ m y hy' (by rw [List.size_toArray]; tb_rel)) ⟨g, ?_⟩
         have sb : Heap.SameBut p.1 s.heap (s.heap.update p.1 (Obj.mapSeq fun xs => xs.eraseIdxIfInBounds (us.toArray.size - 1))) := Heap.SameBut.update ..
         have g' := PySem.IsL.update (h := s.heap) (n := m) g (fun xs => xs.eraseIdxIfInBounds (us.toArray.size - 1))
         have er : us.toArray.eraseIdxIfInBounds (us.toArray.size - 1) = us.dropLast.toArray := by
          have := kl_erase us.dropLast [] y
          rw [List.append_nil] at this
          rw [← hsplit] at this
          have e3 : us.toArray.size - 1 = us.dropLast.length := by rw [hsplit, hk]; simp
          rw [e3, this]
         rw [er] at g'
         have tk := R.st.tupsBut hp sb
         have z := R.turn (ao := .list xs.dropLast) hp sb ⟨_, g'⟩ ⟨pe, us.dropLast, _, g', by
          rw [List.dropLast_eq_take, List.dropLast_eq_take, lr]
          exact (r.mono (fun _ _ e => e) tk).take _⟩
         exact OutX.here o z.1 z.2 (iy.mono (fun _ _ e => e) tk)
       · exact o.elim
     · exact o.elim
   · exact o.elim
 · exact o.elim
end
end Mine
end
section
open PySem PySem.W PySem.Calls PyProof.Rows
namespace Mine
theorem strsAre_of {ad : Adr} {h : Heap} : ∀ {us : List Value} {xs : List AV} {ss : List (List Nat)}, VAll ad h us xs → strsOf xs = some ss → StrsAre us (ss.map fun s => ⟨s.toArray⟩)
 | _, _, _, .nil, e => by simp [strsOf] at e; subst e; exact .nil
 | _, _, _, .cons (a := .str s) x r, e => by
  simp only [strsOf, Option.map_eq_some_iff] at e
  obtain ⟨ss, h1, rfl⟩ := e
  obtain ⟨t, rfl⟩ := x.str_inv
  exact .cons _ t (strsAre_of r h1)
 | _, _, _, .cons (a := .none) x r, e => by simp [strsOf] at e
 | _, _, _, .cons (a := .bool _) x r, e => by simp [strsOf] at e
 | _, _, _, .cons (a := .int _) x r, e => by simp [strsOf] at e
 | _, _, _, .cons (a := .tup _) x r, e => by simp [strsOf] at e
 | _, _, _, .cons (a := .loc _) x r, e => by simp [strsOf] at e
theorem join_flat : ∀ ss : List (List Nat), Str.join ⟨#[]⟩ (ss.map fun s => (⟨s.toArray⟩ : Str)) = ⟨ss.flatten.toArray⟩
 | [] => rfl
 | [s] => by simp [Str.join]
 | s :: s2 :: r => by
  have ih := join_flat (s2 :: r)
  rw [List.map_cons] at ih
  rw [List.map_cons, List.map_cons]
  show (⟨s.toArray⟩ : Str) ++ (⟨#[]⟩ : Str) ++ Str.join ⟨#[]⟩ _ = _
  rw [ih, List.flatten_cons]
  have e : (⟨s.toArray⟩ : Str) ++ (⟨#[]⟩ : Str) = ⟨s.toArray⟩ := by
   have := str_append s []
   simpa using this
  rw [e, str_append]
  simp
section
variable {C : Ctx} {n : Nat} {sc : Scope} {nm gn : List Str}
set_option tactic.hygienic true in
theorem bi_get : BiSnd C n "dict.get" spGet := by
 intro nm A L s ad fr σ vs as Q E ro R i o
 unfold spGet at o
 split at o
 · obtain ⟨v, w, u, rfl, iv, iw, iu⟩ := i.three_inv
   split at o
   · rename_i j _ d _ _ es k e
     obtain ⟨p, hp, rfl⟩ := iv.loc_inv
     obtain ⟨t, rfl⟩ := iw.str_inv
     obtain ⟨pe, kvs, D, r⟩ := R.st.at hp e
     refine call_meetsIn PySem.F.slot_dict_get D.typeIs PySem.F.entry_dict_get (PySem.F.args_dict_get_3 _ _ _) (meets_dict_get_default (PySem.strKind C.prog C.w) p.1 (strKind_is _ _ _ t) (R.st.notSys hp) u) ⟨_, D.mapOf, ?_⟩
     refine OutX.same o _ R ?_
     have z := KVAll.find (fun _ _ => encS_inj) k r
     split at z
     · rename_i en hen
       obtain ⟨v, h1, h2⟩ := z
       show VIn ad s.heap ((valueAt kvs (encS k)).getD u) _
       rw [h1, hen]; exact h2
     · rename_i hen
       show VIn ad s.heap ((valueAt kvs (encS k)).getD u) _
       rw [z, hen]; exact iu
   · rename_i j _ d _ _ es a b e
     obtain ⟨p, hp, rfl⟩ := iv.loc_inv
     obtain ⟨ba, us, m, rfl, g, ru⟩ := iw.tup_inv
     obtain ⟨pe, kvs, D, r, tk0⟩ := R.st.at hp e
     obtain ⟨x1, x2, rfl, i1, i2⟩ := ru.two_inv
     obtain ⟨t1, rfl⟩ := i1.int_inv
     obtain ⟨t2, rfl⟩ := i2.int_inv
     refine call_meetsIn PySem.F.slot_dict_get D.typeIs PySem.F.entry_dict_get (PySem.F.args_dict_get_3 _ _ _) (meetsH_dict_get_default (tupleKind (intKind C.prog C.w)) p.1 ba (R.st.notSys hp) u) ⟨?_, [a, b], kvs, ⟨_, _, _, g, rfl, rfl, .cons (intKind_is _ _ _ _) (.cons (intKind_is _ _ _ _) .nil)⟩, D, ?_⟩
     · have := ro.units
       show A.units + 1 < cLine
       tb_rel
     · refine OutX.same o _ R ?_
       have z := r.find a b
       split at z
       · rename_i en hen
         obtain ⟨v, h1, h2⟩ := z
         first | (rw [h1, hen]; exact h2) | (rw [h1]; exact h2)
       · rename_i hen
         first | (rw [z, hen]; exact iu) | (rw [z]; exact iu)
   · exact o.elim
 · exact o.elim
set_option tactic.hygienic true in
theorem bi_join : BiSnd C n "str.join" spJoin := by
 intro nm A L s ad fr σ vs as Q E ro R i o
 unfold spJoin at o
 split at o
 · obtain ⟨v, w, rfl, iv, iw⟩ := i.two_inv
   split at o
   · rename_i j _ xs e
     split at o
     · rename_i ss hs
       split at o
       · rename_i hl
         obtain ⟨t, rfl⟩ := iv.str_inv
         obtain ⟨p, hp, rfl⟩ := iw.loc_inv
         obtain ⟨us, m, g, r⟩ := R.st.list hp e
         refine join_list (x := ⟨#[]⟩) (t := t) (ys := ss.map fun s => ⟨s.toArray⟩) ⟨_, g, rfl, m, rfl⟩ (strsAre_of r hs) ?_ fun t' k => ?_
         · have e1 : ((ss.map fun s => (⟨s.toArray⟩ : Str)).map (·.length)).sum = ss.flatten.length := by
            rw [List.length_flatten, List.map_map]
            congr 1
           rw [e1, show Str.length ⟨#[]⟩ = 0 from rfl, Nat.mul_zero]
           tb_rel
         · show Q (.str (Txt.join ⟨#[]⟩ _) t') _
           unfold Txt.join
           rw [StrLaws.glued_eq_join, join_flat]
           exact OutX.same o _ R (.str _ _)
       · exact o.elim
     · exact o.elim
   · exact o.elim
 · exact o.elim
theorem bi_index (hq : 10 ≤ n) : BiSnd C n "str.index" spIndex := by
 intro nm A L s ad fr σ vs as Q E ro R i o
 unfold spIndex at o
 split at o
 · obtain ⟨v, w, rfl, iv, iw⟩ := i.two_inv
   split at o
   · rename_i hf
     obtain ⟨t, rfl⟩ := iv.str_inv
     obtain ⟨u, rfl⟩ := iw.str_inv
     exact index_or (ro.quiet hq) (fun h0 => absurd h0 (by tb_rel)) fun _ _ => OutX.same o _ R (.int _ _)
   · exact o.elim
 · exact o.elim
inductive BK where
 | list | dict | str
noncomputable def kindF (k : BK) (a : AV) (σ : Store) : Bool := match k, a with
 | .list, .loc n => (match σ[n]? with | some (.list _) => true | _ => false)
 | .dict, .loc n => (match σ[n]? with | some (.dictS _) => true | some (.dictP _) => true | some (.dictI _) => true | _ => false)
 | .str, .str _ => true
 | _, _ => false
noncomputable def BK.type : BK → String
 | .list => "list"
 | .dict => "dict"
 | .str => "str"
noncomputable def dMethB (k : BK) (spec : Spec) (d : DE) (l : DL) : DE := fun fr σ => (d fr σ).bind fun a σ => if kindF k a σ = true then (l fr σ).bind fun as σ => spec (a :: as) σ else .stuck
theorem kind_type {L : Addr} {s : Shared} {ad : Adr} {fr : Frame} {σ : Store} {k : BK} {a : AV} {v : Value} (R : RF C nm L s.heap ad fr σ) (i : VIn ad s.heap v a) (h : kindF k a σ = true) :
 s.TypeIs v k.type ∧ ∀ b, v = .ref b → ∃ o, s.heap.get? b = some o ∧ o.dict = none := by
 unfold kindF at h
 split at h
 · obtain ⟨p, hp, rfl⟩ := i.loc_inv
   split at h
   · rename_i e
     obtain ⟨us, m, g, r⟩ := R.st.list hp e
     exact ⟨⟨_, g, rfl⟩, fun b q => by cases q; exact ⟨_, g, rfl⟩⟩
   · cases h
 · obtain ⟨p, hp, rfl⟩ := i.loc_inv
   split at h
   · rename_i e
     obtain ⟨_, kvs, D, _⟩ := R.st.at hp e
     refine ⟨D.typeIs, fun b q => ?_⟩
     cases q
     obtain ⟨o, _, _, g, ex, _⟩ := D
     exact ⟨o, g, ex.2.1⟩
   · rename_i e
     obtain ⟨_, kvs, D, _⟩ := R.st.at hp e
     refine ⟨D.typeIs, fun b q => ?_⟩
     cases q
     obtain ⟨o, _, _, g, ex, _⟩ := D
     exact ⟨o, g, ex.2.1⟩
   · rename_i e
     obtain ⟨_, kvs, D, _⟩ := R.st.at hp e
     refine ⟨D.typeIs, fun b q => ?_⟩
     cases q
     obtain ⟨o, _, _, g, ex, _⟩ := D
     exact ⟨o, g, ex.2.1⟩
   · cases h
 · obtain ⟨t, rfl⟩ := i.str_inv
   exact ⟨typeIs_str _ _ _, fun b q => nomatch q⟩
 · cases h
theorem SndE.methB {ob : Expr} {name : Str} {id : String} {apos pos : Pos} {args : List Expr} {d : DE} {l : DL} {spec : Spec} (k : BK) (hb : ∀ env (w : Sem Value), attributeBase ob name env w = w) (hlen : args.length < 30) (hline : (apos.endLine == pos.line) = true)
 (pa : PlainAttrs k.type) (slot : Slot k.type name id) (hty : typeOf (.builtin id) = pure (.type "method_descriptor")) (hf : BiSnd C n id spec) (ho : SndE C n sc nm ob d) (hl : SndL C n sc nm args l) :
 SndE C n sc nm (.Call (.Attribute ob name apos) args [] pos) (dMethB k spec d l) := by
 intro A qn L fa cd cl s ad fr σ Q E ro R o
 refine wpAny_methodCall hb (hl.bare _ _) hlen hline (ho A qn L fa cd cl s ad fr σ _ E ro R (OutX.bind o fun a σ₁ v h₁ t₁ ad₁ R₁ x₁ i₁ o' => ?_))
 split at o'
 · rename_i hk
   have z := kind_type (s := { s with heap := h₁, toks := t₁ }) R₁ i₁ hk
   refine getMethod_builtin z.1 pa slot hty z.2 ?_
   refine callWith_snd KeepOk.builtin hl ro R₁ o' fun as σ' vs h₂ t₂ ad₂ R₂ x₂ i₂ o => ?_
   exact hf nm A L _ ad₂ fr σ' (v :: vs) (a :: as) Q E ro.toRoom R₂ (.cons (x₂.val i₁) i₂) o
 · exact o'.elim
end
end Mine
end
section
open PySem PySem.W PySem.Calls PyProof.Rows
namespace Mine
theorem cut_from {α : Type} (f : α × Nat → Option α) (a : Nat) : ∀ (xs : List α) (b : Nat), (∀ x k, b ≤ k → k < b + xs.length → f (x, k) = if a ≤ k then none else some x) →
 (xs.zipIdx b).filterMap f = xs.take (a - b)
 | [], b, _ => by simp
 | x :: r, b, h => by
  have ih := cut_from f a r (b + 1) fun x k h1 h2 => h x k (by tb_rel) (by simp at h2 ⊢; tb_rel)
  have hb := h x b (Nat.le_refl _) (by simp)
  rw [List.zipIdx_cons, List.filterMap_cons, hb, ih]
  by_cases hab : a ≤ b
  · have e : a - (b + 1) = 0 := by tb_rel
    have e2 : a - b = 0 := by tb_rel
    rw [if_pos hab, e, e2]
    simp
  · have e2 : a - b = (a - (b + 1)) + 1 := by tb_rel
    rw [if_neg hab, e2]
    simp
section
variable {C : Ctx} {n : Nat} {sc : Scope} {nm gn : List Str} {L : Addr} {s : Shared} {ad ad₁ : Adr} {fr : Frame} {σ : Store} {h₁ : Heap} {t₁ : Nat}
theorem delFrom {A : Around} {l sl : Addr} {vs : List Value} {m : Nat} {i : Int} {t : Tok} {Q : Unit → Shared → Prop} {E : Value → Shared → Prop} (ho : s.heap.get? l = some (listOf vs.toArray m)) (hs : s.heap.IsSliceOf sl (.int i t) .none .none) (hi : 0 ≤ i) (hl : vs.length ≤ 1000)
 (h : ∀ h' m', h'.get? l = some (listOf (vs.take i.toNat).toArray m') → Heap.SameBut l s.heap h' → Q () { s with heap := h' }) : wpAny (model C.prog C.w) A (delItem (.ref l) (.ref sl)) Q E s := by
 have sz : sizeLine = 16777216 := by decide
 have hT : s.TypeIs (.ref l) "list" := ⟨_, ho, rfl⟩
 obtain ⟨os, hos, hcs, hds⟩ := id hs
 have hTs : s.TypeIs (.ref sl) "slice" := ⟨os, hos, hcs⟩
 refine wpAny_delItem_slot hT (by decide) PySem.F.slot_list_delitem (wpAny_call_entry PySem.F.slot_list_delitem hT PySem.F.entry_list_delitem ?_ (PySem.F.args_list_delitem_2 _ _))
 show wpAny _ _ (Builtin.List.listSubscript? (.ref sl) >>= _) _ _ s
 refine wpAny_bind ?_
 unfold Builtin.List.listSubscript?
 refine wpAny_bind (wpAny_specialOf hTs slice_no_index ?_)
 simp only [Option.isNone_none, if_true]
 refine wpAny_pure ?_
 show wpAny _ _ (typeOf (.ref sl) >>= _) _ _ s
 refine wpAny_bind (wpAny_typeOf hTs ?_)
 rw [if_neg (by decide)]
 rw [listSliceParts_eq]
 refine wpAny_bind (wpAny_bind (wpAny_field hos hds (x := .none) rfl (wpAny_bind (wpAny_listPart .none ?_))))
 rw [if_neg (by decide)]
 refine wpAny_bind (wpAny_field hos hds (x := .int i t) rfl (wpAny_bind (wpAny_listPart (.int i t) ?_)))
 refine wpAny_bind (wpAny_field hos hds (x := .none) rfl (wpAny_bind (wpAny_listPart .none (wpAny_pure ?_))))
 refine wpAny_bind (wpAny_listItems ho rfl ?_)
 refine wpAny_bind (wpAny_of_eq (sliceIndices_raw (some i) none none vs.toArray.size (by simp)) ?_)
 refine wpAny_bind ?_
 have e1 : sliceBounds (some i) none none vs.toArray.size = (((min i.toNat vs.length : Nat) : Int), (vs.length : Int), (1 : Int)) := by
  simp only [sliceBounds, Option.getD_none, show (1 : Int) > 0 by decide, if_true, if_neg (show ¬ i < 0 by tb_rel), List.size_toArray]
  congr 1
  tb_rel
 rw [e1]
 dsimp only
 have lz : (vs.take i.toNat).length ≤ vs.length := by rw [List.length_take]; tb_rel
 -- what is left of the list
 have key : ∀ f : Array Value → Array Value, f vs.toArray = (vs.take i.toNat).toArray → wpAny (model C.prog C.w) A.in1 (updateSeq l f) (fun _ s' => Q () s') E s := fun f hf => by
  refine wpAny_updateSeq ho rfl ?_ (by rw [List.size_toArray]; tb_rel) (by rw [hf, List.size_toArray]; tb_rel)
  have g' := PySem.IsL.update (h := s.heap) (n := m) ho f
  rw [hf] at g'
  exact h _ _ g' (Heap.SameBut.update ..)
 refine wpAny_rule (wpAny_bind (wpAny_mono (key _ ?_) (fun _ s' q => wpAny_bind (wpAny_letGo (wpAny_pure ⟨_, rfl, q⟩))) fun _ _ y => y))
 refine congrArg List.toArray (?_ : _ = vs.take i.toNat)
 have z := fun f h => cut_from (α := Value) f i.toNat vs 0 h
 refine z _ fun x k _ hk => ?_
 rw [Nat.zero_add] at hk
 show (if ((decide (((min i.toNat vs.length : Nat) : Int) ≤ (k : Int)) && decide ((k : Int) < (vs.length : Int)) && (((k : Int) - ((min i.toNat vs.length : Nat) : Int)) % 1 == 0))) = true then none else some x) = _
 have e3 : (((k : Int) - ((min i.toNat vs.length : Nat) : Int)) % 1 == 0) = true := by rw [Int.emod_one]; rfl
 rw [e3, decide_eq_true (show (k : Int) < (vs.length : Int) by tb_rel), Bool.and_true, Bool.and_true]
 by_cases hik : i.toNat ≤ k
 · rw [if_pos hik, decide_eq_true (by tb_rel), if_pos rfl]
 · rw [if_neg hik, decide_eq_false (by tb_rel), if_neg (by decide)]
noncomputable def delF (a b : AV) (fr : Frame) (σ : Store) : SRes := match a, b with
 | .loc j, .int i => (match σ[j]? with
  | some (.list xs) => if 0 ≤ i ∧ xs.length ≤ 1000 then .ok .next fr (σ.set j (.list (xs.take i.toNat))) else .stuck
  | _ => .stuck)
 | _, _ => .stuck
noncomputable def sDelFrom (d e : DE) : DS := fun fr σ => (d fr σ).then_ fr fun a σ => (e fr σ).then_ fr fun b σ => delF a b fr σ
set_option tactic.hygienic true in
theorem del_rule {A : Around} {a b : AV} {v u : Value} {Q : Flow → Shared → Prop} {E : Value → Shared → Prop} (R : RF C nm L s.heap ad fr σ) (i₁ : VIn ad s.heap v a) (i₂ : VIn ad s.heap u b) (o : OutS C nm L s ad Q E (delF a b fr σ)) :
 wpAny (model C.prog C.w) A (delItem v (.ref s.heap.objs.size)) (fun _ s' => Q .next s') E { s with heap := s.heap.push { cls := .type "slice", data := .fields #[u, .none, .none] } } := by
 unfold delF at o
 split at o
 · obtain ⟨p, hp, rfl⟩ := i₁.loc_inv
   obtain ⟨t, rfl⟩ := i₂.int_inv
   split at o
   · rename_i j i _ xs e
     split at o
     · rename_i hc
       obtain ⟨pe, vs, m, g, r⟩ := R.st.at hp e
       have kp := push_keeps s.heap { cls := .type "slice", data := .fields #[.int i t, .none, .none] }
       have R3 := R.keeps kp
       refine delFrom (kp _ _ g) (Heap.IsSliceOf.new ..) hc.1 (by rw [r.length]; exact hc.2) fun h' m' g' sb => ?_
       have tk := R3.st.tupsBut hp sb
       have z := R3.turn (ao := .list (xs.take i.toNat)) hp sb ⟨_, g'⟩ ⟨pe, _, m', g', ((r.mono (fun _ _ e => e) fun _ _ _ e => kp _ _ e).mono (fun _ _ e => e) tk).take _⟩
       exact o .next h' s.toks ad z.1 ((Ext.keeps kp).trans z.2) trivial
     · exact o.elim
   · exact o.elim
 · exact o.elim
theorem SndT.delFrom {ob lo : Expr} {p tp pos : Pos} {d e : DE} (ho : SndE C n sc nm ob d) (hl : SndE C n sc nm lo e) :
 SndT C n sc nm (.Delete [.Subscript ob (.Slice (some lo) none none p) tp] pos) (sDelFrom d e) := by
 intro A qn L fa cd cl s ad fr σ Q E ro R o
 refine wpAny_Delete ?_
 show wpAny _ _ (do delete (.Subscript ob (.Slice (some lo) none none p) tp) (envX qn sc L fa cd cl); pure ()) _ _ _
 refine wpAny_bind (wpAny_delete_Subscript (ho A qn L fa cd cl s ad fr σ _ E ro R (OutS.then_ o fun a σ₁ v h₁ t₁ ad₁ R₁ x₁ i₁ o => ?_)))
 refine wpAny_Slice (SndP.some hl A qn L fa cd cl _ ad₁ fr σ₁ _ E ro R₁ (OutS.then_ o fun b σ₂ u h₂ t₂ ad₂ R₂ x₂ i₂ o => ?_))
 refine wpAny_pure (wpAny_pure ?_)
 exact wpAny_mono (del_rule R₂ (x₂.val i₁) i₂ o) (fun _ _ q => wpAny_pure q) fun _ _ y => y
noncomputable def spTuple : Spec := fun as σ => match as with
 | [.loc n] => (match σ[n]? with
  | some (.list xs) => if xs.length ≤ 1000 then .ok (.tup xs) σ else .stuck
  | _ => .stuck)
 | _ => .stuck
set_option tactic.hygienic true in
theorem SndE.callTuple (S : FnS sc nm gn) {np pos : Pos} {es : List Expr} {d : DL} (j : Nat) (hx : gn[j]? = some "tuple") (h0 : C.mg "tuple" = none) (hl : SndL C n sc nm es d) :
 SndE C n sc nm (.Call (.Name "tuple" np) es [] pos) (dCall spTuple d) := by
 intro A qn L fa cd cl s ad fr σ Q E ro R o
 obtain ⟨mm, F, _⟩ := id R.fr
 have mem : ("tuple" : Str) ∈ gn := List.mem_of_getElem? hx
 refine wpAny_Call_NameR (Name_function_global S.kind (S.glob _ mem) (loadGlobal_builtin (env := envX qn sc L fa cd cl) (v := .type "tuple") (C.T.g.keeps F.keep) h0 (C.T.b.keeps F.keep) ((C.T.builtins _ (by decide)).trans rfl) ?_) (S.debug _ (List.mem_append_right _ mem)))
 refine callWith_snd KeepOk.type hl ro R o fun as σ' vs h₁ t₁ ad₁ R₁ x₁ i₁ o => ?_
 unfold spTuple at o
 split at o
 · obtain ⟨v, rfl, iv⟩ := i₁.one_inv
   split at o
   · rename_i k xs e
     split at o
     · rename_i hc
       obtain ⟨p, hp, rfl⟩ := iv.loc_inv
       obtain ⟨us, m, g, r⟩ := R₁.st.list hp e
       have lr := r.length
       have sz : sizeLine = 16777216 := by decide
       refine call_tuple_list ⟨_, g, rfl, m, rfl⟩ (fun h' k => ?_) (by rw [List.size_toArray]; tb_rel)
       have k' : ∀ b o, h₁.get? b = some o → (h'.push { cls := .type "tuple", data := .seq us.toArray }).get? b = some o := fun b o e => push_keeps _ _ _ _ (k b o e)
       exact OutX.here o (R₁.keeps k') (Ext.keeps k') (.tup (Heap.get?_push_size _ rfl) (r.mono (fun _ _ e => e) fun _ _ _ e => k' _ _ e))
     · exact o.elim
   · exact o.elim
 · exact o.elim
noncomputable def dIsStr (d : DE) : DE := fun fr σ => (d fr σ).bind fun a σ => match a with
 | .str _ => .ok (.bool true) σ
 | _ => .stuck
theorem SndE.isStr (S : FnS sc nm gn) {np sp pos : Pos} {e : Expr} {d : DE} (j k : Nat) (hx : gn[j]? = some "isinstance") (h0 : C.mg "isinstance" = none) (hy : gn[k]? = some "str") (h1 : C.mg "str" = none)
 (hs : ∀ env, starEach [e, .Name "str" sp] env = [(false, eval e env), (false, eval (.Name "str" sp) env)]) (he : SndE C n sc nm e d) : SndE C n sc nm (.Call (.Name "isinstance" np) [e, .Name "str" sp] [] pos) (dIsStr d) := by
 intro A qn L fa cd cl s ad fr σ Q E ro R o
 obtain ⟨mm, F, _⟩ := id R.fr
 have mem : ("isinstance" : Str) ∈ gn := List.mem_of_getElem? hx
 have mem2 : ("str" : Str) ∈ gn := List.mem_of_getElem? hy
 refine wpAny_Call_NameR (Name_function_global S.kind (S.glob _ mem) (loadGlobal_builtin (env := envX qn sc L fa cd cl) (v := .builtin "isinstance") (C.T.g.keeps F.keep) h0 (C.T.b.keeps F.keep) ((C.T.builtins _ (by decide)).trans rfl) ?_) (S.debug _ (List.mem_append_right _ mem)))
 have hb : (backTo pos (starEach [e, .Name "str" sp] (envX qn sc L fa cd cl))).any (·.1) = false := by rw [hs]; rfl
 refine callWith_of (P := C.K.In) (by rw [hb]; rfl) KeepOk.builtin (evalArgs_bare hb ?_)
 refine wpAny_items_cons (he A qn L fa cd cl s ad fr σ _ E ro R (OutX.bind o fun a σ₁ v h₁ t₁ ad₁ R₁ x₁ i₁ o => ?_)) (hs _)
 obtain ⟨m1, F1, _⟩ := id R₁.fr
 refine wpAny_items_cons (rest := []) (env := envX qn sc L fa cd cl) (e := .Name "str" sp) (Name_function_global S.kind (S.glob _ mem2) (loadGlobal_builtin (env := envX qn sc L fa cd cl) (v := .type "str") (C.T.g.keeps F1.keep) h1 (C.T.b.keeps F1.keep) ((C.T.builtins _ (by decide)).trans rfl) ?_) (S.debug _ (List.mem_append_right _ mem2))) rfl
 refine wpAny_items_nil ⟨R₁.st.inK, ?_⟩
 split at o
 · obtain ⟨t, rfl⟩ := i₁.str_inv
   exact IsiPair.str_str (OutX.here o R₁ .refl (.bool _))
 · exact o.elim
theorem SndE.dictS {pos : Pos} : SndE C n sc nm (.Dict [] [] pos) dDictS := by
 intro A qn L fa cd cl s ad fr σ Q E ro R o
 have z := R.pushNew { cls := .type "dict", data := .dict #[] } rfl (ao := .dictS []) fun g => ⟨rfl, [], Heap.DictOf.new _, .nil⟩
 exact wpAny_Dict_empty (OutX.here o z.1 z.2 (loc_new R _))
theorem SndE.dictI {pos : Pos} : SndE C n sc nm (.Dict [] [] pos) dDictI := by
 intro A qn L fa cd cl s ad fr σ Q E ro R o
 have z := R.pushNew { cls := .type "dict", data := .dict #[] } rfl (ao := .dictI []) fun g => ⟨rfl, [], Heap.DictOf.new _, .nil⟩
 exact wpAny_Dict_empty (OutX.here o z.1 z.2 (loc_new R _))
theorem SndE.dictP {pos : Pos} : SndE C n sc nm (.Dict [] [] pos) dDictP := by
 intro A qn L fa cd cl s ad fr σ Q E ro R o
 have z := R.pushNew { cls := .type "dict", data := .dict #[] } rfl (ao := .dictP []) fun g => ⟨rfl, [], Heap.DictOfH.new _, .nil, fun x hx => nomatch hx⟩
 exact wpAny_Dict_empty (OutX.here o z.1 z.2 (loc_new R _))
end
end Mine
end
section
open PySem PySem.W PySem.Calls PyProof.Rows
namespace Mine
noncomputable def toRes : SRes → Res AV
 | .ok (.ret v) _ σ => .ok v σ
 | .ok .next _ σ => .ok .none σ
 | .ok _ _ _ => .stuck
 | .exc e _ σ => .exc e σ
 | .stuck => .stuck
noncomputable def fnSpec (a : Nat) (dfl : List AV) (m : Nat) (d : DS) : Spec := fun avs σ =>
 if avs.length = a then toRes (d ((avs ++ dfl).map some ++ List.replicate m none) σ) else .stuck
theorem lookup_of_mem {α β : Type} [BEq α] [LawfulBEq α] {k : α} {v : β} : ∀ {l : List (α × β)}, (l.map (·.1)).Nodup → (k, v) ∈ l → l.lookup k = some v
 | (k', v') :: r, nd, hm => by
  rw [List.map_cons, List.nodup_cons] at nd
  rw [List.lookup_cons]
  rcases List.mem_cons.mp hm with h | h
  · cases h; simp
  · have ne : (k == k') = false := by
     apply beq_eq_false_iff_ne.mpr
     rintro rfl
     exact nd.1 (List.mem_map.mpr ⟨_, h, rfl⟩)
    rw [ne]
    exact lookup_of_mem nd.2 h
theorem Ext.drop {ad ad' : Adr} {L : Addr} {h h' : Heap} (x : Ext ad [L] h ad' h') (e : h.get? L = Option.none) : Ext ad [] h ad' h' :=
 ⟨x.more, fun b o hb ht _ => x.keep b o hb ht (by
  rw [List.mem_singleton]
  rintro rfl
  rw [e] at hb; cases hb), x.tups, x.grow⟩
noncomputable def FdAt (fd : FuncData) (body : List Stmt) (scope : Scope) : Prop := fd.body = .stmts body ∧ fd.scope = scope ∧ fd.globals = mainGlobals ∧ fd.closure = [] ∧ fd.builtins = builtinsNs
theorem FdAt.env {fd : FuncData} {body : List Stmt} {scope : Scope} (F : FdAt fd body scope) (L f : Addr) : callEnv fd L f = envX fd.qualname scope L f fd.code [] := by
 obtain ⟨_, rfl, h3, h4, h5⟩ := F
 unfold callEnv newEnv
 rw [h3, h4, h5]
noncomputable def FnAt (C : Ctx) (f : Addr) (body : List Stmt) (scope : Scope) (ps : List Str) (a : Nat) (dfl : List AV) : Prop :=
 ∃ (o : Obj) (fd : FuncData), (C.K.lookup f = some o ∧ o.data = .func fd) ∧ FdAt fd body scope ∧ codeIn C.K fd.code fd.qualname = true ∧
  ∃ dvs : List Value, (∀ ad h, VAll ad h dvs dfl) ∧ ∀ (s : Shared) (vs : List Value), C.K.In s.heap → vs.length = a → BindsTo s fd ⟨vs, []⟩ (ps.zip (vs ++ dvs))
theorem FnAt.call {C : Ctx} {f : Addr} {body : List Stmt} {scope : Scope} {ps gn : List Str} {locs : List Str} {a : Nat} {dfl : List AV} {A : Around} {s : Shared} {vs : List Value} {R : Result → Shared → Prop} (ho : FnAt C f body scope ps a dfl) (S : FnS scope (ps ++ locs) gn)
 (hcell : ∀ x ∈ scope.names, x.2 ≠ .cell) (hco : scope.isCoroutine = false) (hgen : scope.isGenerator = false) (hd : A.depth < recursionLimit) (X : C.K.In s.heap) (hlim : s.heap.NoLimit) (hl : vs.length = a)
 (h : ∀ (qual : Str) (cdv : Value) (dvs : List Value) (h₀ : Heap), (∀ ad h, VAll ad h dvs dfl) → h₀.Ns s.heap.objs.size (fun x => (ps.zip (vs ++ dvs)).reverse.lookup x) → (∀ b o, s.heap.get? b = some o → h₀.get? b = some o) →
  ∀ e, e = envX qual scope s.heap.objs.size f cdv [] → wpAny (model C.prog C.w) (A.deeper e) (execs body e) (fun f s' => R (.ok (.ret (match f with | .ret v => v | _ => .none))) s')
   (fun x s' => wpAny (model C.prog C.w) (A.deeper e) (leaving e x) (fun _ s'' => R (.error x) s'') (fun e' s'' => R (.error e') s'') s') { s with heap := h₀, toks := s.toks + (ps.zip (vs ++ dvs)).length }) :
 codeAny (model C.prog C.w) A (.call (.ref f) ⟨vs, []⟩) R s := by
 obtain ⟨o, fd, ⟨hK, hdt⟩, F, hcd, dvs, hdv, hb⟩ := ho
 have e := F.2.1
 refine codeAny_call_def hd (X _ _ hK) hdt hlim (codeRec_of X hcd) F.1 (hb s vs X hl) (by rw [e]; exact hcell) (fun x hx => ?_) (fun h₁ ns k => h _ _ dvs h₁ hdv ns k _ (F.env _ _)) (by rw [e]; exact hco) (by rw [e]; exact hgen) (by rw [e]; exact S.kind)
 rw [e]
 exact S.loc _ (List.mem_append_left _ (List.of_mem_zip hx).1)
section
variable {C : Ctx} {n : Nat}
theorem entry {L : Addr} {h h₁ : Heap} {ad : Adr} {σ : Store} {ps locs : List Str} {vs : List Value} {as : List AV} (hz : C.h₀.objs.size ≤ L) (hL : h.get? L = none) (S : SIn C ad σ h) (i : VAll ad h vs as) (nd : (ps ++ locs).Nodup) (hl : ps.length = as.length)
 (ns : h₁.Ns L (fun x => (ps.zip vs).reverse.lookup x)) (k : ∀ b o, h.get? b = some o → h₁.get? b = some o) : RF C (ps ++ locs) L h₁ ad (as.map some ++ List.replicate locs.length none) σ := by
 have hv := i.length
 have S1 := S.keeps k
 refine ⟨S1, ⟨_, ⟨ns, S1.keep, hz⟩, fun j av e => ?_⟩, S.fresh hL⟩
 have hj : j < as.length := by
  apply Decidable.byContradiction
  intro q
  rw [List.getElem?_append_right (by simp; tb_rel), List.getElem?_replicate] at e
  split at e <;> simp at e
 rw [List.getElem?_append_left (by simpa using hj), List.getElem?_map] at e
 obtain ⟨a, ha, e⟩ := Option.map_eq_some_iff.mp e
 cases e
 obtain ⟨v, hv1, hv2⟩ := i.get ha
 have hjp : j < ps.length := by tb_rel
 refine ⟨ps[j], v, by rw [List.getElem?_append_left hjp, List.getElem?_eq_getElem hjp], ?_, hv2.mono (fun _ _ e => e) fun _ _ _ e => k _ _ e⟩
 apply lookup_of_mem
 · rw [List.map_reverse]
   refine List.pairwise_reverse.mpr (List.Pairwise.imp (fun h => Ne.symm h) ?_)
   show List.Nodup _
   rw [List.map_fst_zip (by tb_rel)]
   exact (List.nodup_append.mp nd).1
 · rw [List.mem_reverse]
   apply List.mem_of_getElem? (i := j)
   rw [List.getElem?_zip_eq_some]
   exact ⟨List.getElem?_eq_getElem hjp, hv1⟩
theorem FnSnd.of_body {f : Addr} {body : List Stmt} {scope : Scope} {gn : List Str} (ps locs : List Str) (a : Nat) (dfl : List AV) {d : DS} (hL : ∀ A L cl, C.lim A L cl)
 (ho : FnAt C f body scope ps a dfl) (S : FnS scope (ps ++ locs) gn) (hps : ps.length = a + dfl.length)
 (hbody : SndS C n scope (ps ++ locs) body d)
 (hcell : ∀ x ∈ scope.names, x.2 ≠ .cell) (hco : scope.isCoroutine = false) (hgen : scope.isGenerator = false) : FnSnd C (n + 1) (.ref f) (fnSpec a dfl locs.length d) := by
 intro A s ad σ vs avs R ro Si hz i o
 unfold fnSpec at o
 split at o
 · rename_i hlen
   refine ho.call S hcell hco hgen (by have := ro.depth; tb_rel) Si.inK (C.T.nolimit.keeps Si.keep) (by rw [i.length]; exact hlen) fun qual cdv dvs h₁ hd ns k e he => ?_
   · subst he
     have dl := (hd ad s.heap).length
     have i2 : VAll ad s.heap (vs ++ dvs) (avs ++ dfl) := i.append (hd _ _)
     have R1 := entry (C := C) hz (push_new s.heap) Si i2 S.nodup (by rw [List.length_append]; tb_rel) ns k
     have ro1 : RoomL C n (A.deeper (envX qual scope s.heap.objs.size f cdv [])) s.heap.objs.size [] := ⟨⟨by
      have := ro.depth
      show A.depth + 1 + n < recursionLimit
      tb_rel, by
      have := ro.units
      show A.units + 3 + 20 * n + 200 < cLine
      tb_rel, fun q => ro.quiet (by tb_rel)⟩, hL _ _ _⟩
     have n0 : s.heap.get? s.heap.objs.size = none := push_new s.heap
     refine hbody _ qual s.heap.objs.size f cdv [] { s with heap := h₁, toks := s.toks + (ps.zip (vs ++ dvs)).length } ad ((avs ++ dfl).map some ++ List.replicate locs.length none) σ _ _ ro1 R1 ?_
     generalize d ((avs ++ dfl).map some ++ List.replicate locs.length none) σ = r at o
     cases r with
     | stuck => exact o
     | exc e fr' σ' => exact o.elim
     | ok fl fr' σ' =>
      intro g h t ad' R2 x2 fi
      have x3 : Ext ad [] s.heap ad' h := Ext.drop ((Ext.keeps k).trans x2) n0
      cases fl with
      | next => cases g <;> first | exact fi.elim | exact o _ h t ad' R2.st x3 .none
      | brk => exact o.elim
      | cont => exact o.elim
      | ret v => cases g <;> first | exact fi.elim | exact o _ h t ad' R2.st x3 fi
 · exact o.elim
end
end Mine
end
section
open PySem PySem.W PySem.Calls PyProof.Rows
namespace Mine
noncomputable def dStuck : DE := fun _ _ => .stuck
noncomputable def bStuck : DB := fun _ _ => .stuck
noncomputable def sStuck : DS := fun _ _ => .stuck
noncomputable def dNot (d : DE) : DE := fun fr σ => (d fr σ).bind fun a σ => (boolF a σ).bind fun b σ => .ok (.bool (!b)) σ
section
variable {C : Ctx} {n : Nat} {sc : Scope} {nm gn : List Str}
theorem SndE.stuck {e : Expr} : SndE C n sc nm e dStuck := fun A qn L f cd cl s ad fr σ Q E ro R o => o.elim
theorem SndB.stuck {e : Expr} : SndB C n sc nm e bStuck := fun A qn L f cd cl s ad fr σ Q E ro R o => o.elim
theorem SndT.stuck {e : Stmt} : SndT C n sc nm e sStuck := fun A qn L f cd cl s ad fr σ Q E ro R o => o.elim
theorem SndS.stuck {e : List Stmt} : SndS C n sc nm e sStuck := fun A qn L f cd cl s ad fr σ Q E ro R o => o.elim
theorem SndE.not {e : Expr} {d : DE} {pos : Pos} (he : SndE C n sc nm e d) : SndE C n sc nm (.UnaryOp .Not e pos) (dNot d) := by
 intro A qn L f cd cl s ad fr σ Q E ro R o
 refine wpAny_UnaryOp (he A qn L f cd cl s ad fr σ _ E ro R (OutX.bind o fun a σ' v h₁ t₁ ad₁ R₁ x₁ i₁ o => ?_))
 unfold boolF at o
 split at o
 · obtain rfl := i₁.bool_inv
   show wpAny _ _ (holding [Value.bool _] _) _ _ _
   exact wpAny_holding (wpAny_bind (wpAny_truthy_bool (wpAny_pure (OutX.here o R₁ .refl (.bool _)))))
 · exact o.elim
theorem SndE.andC {x y : Expr} {r : List Expr} {d e : DE} {pos : Pos} (hx : SndE C n sc nm x d) (hy : SndE C n sc nm (.BoolOp .And (y :: r) pos) e) : SndE C n sc nm (.BoolOp .And (x :: y :: r) pos) (dAnd d e) := by
 intro A qn L f cd cl s ad fr σ Q E ro R o
 show wpAny _ A (do
  let v ← eval x (envX qn sc L f cd cl)
  standAt pos
  let t ← holding [v] (truthy v)
  match BoolOp.And, t with
  | .And, false | .Or, true => pure v
  | _, _ => eval (.BoolOp .And (y :: r) pos) (envX qn sc L f cd cl)) Q E s
 refine wpAny_bind (wpAny_mono (hx A qn L f cd cl s ad fr σ _ E ro R (OutX.bind (Q := fun v s₁ => wpAny (model C.prog C.w) A (truthy v) (fun t s₂ => wpAny (model C.prog C.w) A (match BoolOp.And, t with
  | .And, false | .Or, true => pure v
  | _, _ => eval (.BoolOp .And (y :: r) pos) (envX qn sc L f cd cl)) Q E s₂) E s₁) o fun a σ₁ v h₁ t₁ ad₁ R₁ x₁ i₁ o => ?_)) (fun v s₁ h₁ => wpAny_bind (wpAny_standAt (wpAny_bind (wpAny_holding h₁)))) fun _ _ x => x)
 unfold boolF at o
 split at o
 · obtain rfl := i₁.bool_inv
   refine wpAny_truthy_bool ?_
   rename_i b
   cases b with
   | true => exact hy A qn L f cd cl _ ad₁ fr σ₁ Q E ro R₁ o
   | false => exact wpAny_pure (OutX.here o R₁ .refl (.bool _))
 · exact o.elim
theorem SndE.globI (S : FnS sc nm gn) {x : Str} {pos : Pos} {i : Int} (j : Nat) (hx : gn[j]? = some x) (hv : ∃ t, C.mg x = some (.int i t)) : SndE C n sc nm (.Name x pos) (DC (.int i)) := by
 obtain ⟨t, hv⟩ := hv
 exact SndE.glob S j hx hv fun _ _ _ => .int i t
theorem SndE.globS (S : FnS sc nm gn) {x : Str} {pos : Pos} {cs : List Nat} (j : Nat) (hx : gn[j]? = some x) (hv : ∃ t, C.mg x = some (.str ⟨cs.toArray⟩ t)) : SndE C n sc nm (.Name x pos) (DC (.str cs)) := by
 obtain ⟨t, hv⟩ := hv
 exact SndE.glob S j hx hv fun _ _ _ => .str cs t
theorem SndE.globT2 (S : FnS sc nm gn) {x : Str} {pos : Pos} {i k : Int} (j : Nat) (hx : gn[j]? = some x) (hv : ∃ a t u m, C.mg x = some (.ref a) ∧ C.h₀.get? a = some (tupObj #[.int i t, .int k u] m)) : SndE C n sc nm (.Name x pos) (DC (.tup [.int i, .int k])) := by
 obtain ⟨a, t, u, m, hv, ha⟩ := hv
 exact SndE.glob S j hx hv fun ad h kk => .tup (vs := [.int i t, .int k u]) (kk _ _ ha) (.cons (.int i t) (.cons (.int k u) .nil))
noncomputable def mkSpec (c : Nat) (spec : Spec) : Spec := fun avs σ => ((spec (.loc σ.length :: avs) (σ ++ [.inst c []])).calm).bind fun r σ' => match r with
 | .none => .ok (.loc σ.length) σ'
 | _ => .stuck
theorem mk_snd {c : Nat} {fI : Addr} {spec : Spec} (hm : makesIn C.K (C.cls c) = true) (hi : findIn C.K (.ref (C.cls c)) "__init__" = some (some (.ref fI))) (hf : isFn C.K (.ref fI) = true) (hs : FnSnd C n (.ref fI) spec) : FnSnd C (n + 1) (.ref (C.cls c)) (mkSpec c spec) := by
 intro A s ad σ vs avs R ro S hz i o
 obtain ⟨hh, g, d, t, os⟩ := s
 dsimp only at S hz i o
 have X := S.inK
 have k : ∀ b o, hh.get? b = some o → ((hh.push emptyDict).push (instObj (C.cls c) hh.objs.size)).get? b = some o := fun b o e => Heap.get?_push_of_some _ (Heap.get?_push_of_some _ e)
 refine make_core (makes_of X hm) (looks_findIn X hi) (fun self => bind_fn X self (beq_iff_eq.mp hf)) (.inl rfl) ?_
 have n1 : hh.get? (hh.objs.size + 1) = none := none_of_size (Nat.le_succ _)
 have n0 : hh.get? hh.objs.size = none := push_new hh
 have g1 : ((hh.push emptyDict).push (instObj (C.cls c) hh.objs.size)).get? (hh.objs.size + 1) = some (instObj (C.cls c) hh.objs.size) := by heap_get
 have g2 : ((hh.push emptyDict).push (instObj (C.cls c) hh.objs.size)).get? hh.objs.size = some (dictOf [] 0) := by heap_get
 have S1 : SIn C (ad ++ [(hh.objs.size + 1, hh.objs.size)]) (σ ++ [.inst c []]) ((hh.push emptyDict).push (instObj (C.cls c) hh.objs.size)) := S.add k n1 n0 ⟨g1, [], 0, g2, .nil⟩
 have x1 : Ext ad [] hh (ad ++ [(hh.objs.size + 1, hh.objs.size)]) ((hh.push emptyDict).push (instObj (C.cls c) hh.objs.size)) := Ext.add k n1 n0
 have i1 : VAll (ad ++ [(hh.objs.size + 1, hh.objs.size)]) ((hh.push emptyDict).push (instObj (C.cls c) hh.objs.size)) (.ref (hh.objs.size + 1) :: vs) (.loc σ.length :: avs) :=
  .cons (.loc (p := (hh.objs.size + 1, hh.objs.size)) (by rw [← S.len]; simp)) (x1.vals i)
 refine hs _ ⟨(hh.push emptyDict).push (instObj (C.cls c) hh.objs.size), g, d, t, os⟩ _ _ _ _ _ ⟨?_, ?_, fun q => ro.quiet (by tb_rel)⟩ S1 (by simp only [Heap.size_push]; tb_rel) i1 ?_
 · have := ro.depth
   show A.depth + _ + n < recursionLimit
   have w : (Code.builtin "type.__call__" ⟨.ref (C.cls c) :: vs, []⟩).weight = 1 := by with_unfolding_all rfl
   tb_rel
 · have := ro.units
   show A.units + _ + 20 * n + 200 < cLine
   have w : (Code.builtin "type.__call__" ⟨.ref (C.cls c) :: vs, []⟩).cUnits = 1 := by with_unfolding_all rfl
   tb_rel
 · unfold mkSpec at o
   generalize spec (.loc σ.length :: avs) (σ ++ [.inst c []]) = r at o
   cases r with
   | stuck => exact o.elim
   | exc e σ' => exact o.elim
   | ok a σ' =>
    intro v h t' ad' S2 x2 i2
    cases a <;> first | exact o.elim | skip
    obtain rfl := i2.none_inv
    refine ⟨rfl, o _ h t' ad' S2 (x1.trans x2) ?_⟩
    have : (ad ++ [(hh.objs.size + 1, hh.objs.size)])[σ.length]? = some (hh.objs.size + 1, hh.objs.size) := by rw [← S.len]; simp
    exact .loc (p := (hh.objs.size + 1, hh.objs.size)) (x2.idx _ _ this)
end
end Mine
end
section
open PySem PySem.W PySem.Calls PyProof.Rows
namespace Mine
noncomputable def notStar : Expr → Bool
 | .Starred _ _ => false
 | _ => true
theorem SR {e : Expr} {es : List Expr} (h : notStar e = true) (env : Env) : starEach (e :: es) env = (false, eval e env) :: starEach es env := by
 cases e <;> first | rfl | (cases h)
noncomputable def fnB : Stmt → List Stmt
 | .FunctionDef _ _ b _ _ _ _ _ _ _ => b
 | _ => []
noncomputable def fnSc : Stmt → Scope
 | .FunctionDef _ _ _ _ _ _ sc _ _ _ => sc
 | _ => { kind := .module, names := [], isGenerator := false, isCoroutine := false }
noncomputable def fnAr : Stmt → Arguments
 | .FunctionDef _ a _ _ _ _ _ _ _ _ => a
 | _ => { posonlyargs := [], args := [], vararg := none, kwonlyargs := [], kw_defaults := [], kwarg := none, defaults := [] }
noncomputable def clB : Stmt → List Stmt
 | .ClassDef _ _ _ b _ _ _ _ _ _ _ => b
 | _ => []
noncomputable def stTop (i : Nat) : Stmt := PySem.Challenge.pw_rr0032_01.main.body.getD i (.Pass ⟨0, 0, 0, 0⟩)
noncomputable def stIn (i j : Nat) : Stmt := (clB (stTop i)).getD j (.Pass ⟨0, 0, 0, 0⟩)
noncomputable def cChk1 : Expr → AV → Bool
 | .Constant (.str x) _ _, .str cs => x.cps.toList == cs
 | .Constant (.int i) _ _, .int j => i == j
 | _, _ => false
noncomputable def cChk : Expr → AV → Bool
 | .Tuple [a, b] _ _, .tup [x, y] => cChk1 a x && cChk1 b y
 | e, a => cChk1 e a
noncomputable def cChks : List Expr → List AV → Bool
 | [], [] => true
 | e :: es, a :: as => cChk e a && cChks es as
 | _, _ => false
section
variable {C : Ctx} {n : Nat} {sc : Scope} {nm gn : List Str}
theorem SndE.congr {e : Expr} {d d' : DE} (h : SndE C n sc nm e d) (q : d = d') : SndE C n sc nm e d' := q ▸ h
theorem SndE.const1 {e : Expr} {a : AV} (h : cChk1 e a = true) : SndE C n sc nm e (DC a) := by
 unfold cChk1 at h
 split at h
 · exact SndE.cstr (by rw [← eq_of_beq h])
 · rw [← eq_of_beq h]; exact SndE.cint
 · cases h
theorem cChk1_ns {e : Expr} {a : AV} (h : cChk1 e a = true) : notStar e = true := by
 unfold cChk1 at h
 split at h <;> first | rfl | cases h
set_option tactic.hygienic true in
theorem SndE.const {e : Expr} {a : AV} (h : cChk e a = true) : SndE C n sc nm e (DC a) := by
 unfold cChk at h
 split at h
 · rename_i a b _ _ x y
   obtain ⟨h1, h2⟩ := Bool.and_eq_true_iff.mp h
   refine (SndE.tup (SndL.cons (SR (cChk1_ns h1)) (SndE.const1 h1) (SndL.cons (SR (cChk1_ns h2)) (SndE.const1 h2) SndL.nil))).congr ?_
   rfl
 · exact SndE.const1 h
theorem cChk_ns {e : Expr} {a : AV} (h : cChk e a = true) : notStar e = true := by
 unfold cChk at h
 split at h
 · rfl
 · exact cChk1_ns h
noncomputable def lCst (as : List AV) : DL := fun _ σ => .ok as σ
theorem SndL.consts : ∀ {es : List Expr} {as : List AV}, cChks es as = true → SndL C n sc nm es (lCst as)
 | [], [], _ => SndL.nil
 | e :: es, a :: as, h => by
  obtain ⟨h1, h2⟩ := Bool.and_eq_true_iff.mp h
  have := SndL.cons (SR (cChk_ns h1)) (SndE.const (C := C) (n := n) (sc := sc) (nm := nm) h1) (SndL.consts h2)
  exact this
 | [], _ :: _, h => by cases h
 | _ :: _, [], h => by cases h
end
noncomputable def fuel : Nat := 100000
noncomputable def sTup (d : DE) (g : AV → Frame → Store → GRes) : DS := fun fr σ => (d fr σ).then_ fr fun a σ => (g a fr σ).on
theorem gName_chk (i : Nat) : GKeeps (gName i) := fun fr σ x p e n xs q => by cases e; exact q
set_option tactic.hygienic true in
theorem GKeeps.tup2 {g1 g2 : AV → Frame → Store → GRes} (k1 : GKeeps g1) (k2 : GKeeps g2) : GKeeps (gTup2 g1 g2) := fun fr σ x p e n xs q => by
 unfold gTup2 at e
 split at e
 · split at e
   · rename_i p' e'
     exact k2 _ _ _ _ e n xs (k1 _ _ _ _ e' n xs q)
   · cases e
 · cases e
theorem gTup2_chk (i j : Nat) : GKeeps (gTup2 (gName i) (gName j)) := (gName_chk i).tup2 (gName_chk j)
noncomputable def spExc : Spec := fun as σ => match as with
 | [b] => .ok (.loc σ.length) (σ ++ [.exc true 1 [(4, b)]])
 | _ => .stuck
noncomputable def sRaise (d : DE) : DS := fun fr σ => (d fr σ).then_ fr fun a σ => match a with
 | .loc k => (match σ[k]? with
  | some (.exc true 1 _) => .exc a fr σ
  | _ => .stuck)
 | _ => .stuck
end Mine
end
section
open PySem PySem.W PySem.Calls PyProof.Rows
namespace Mine
section
variable {C : Ctx} {n : Nat} {sc : Scope} {nm gn : List Str}
theorem raise_own {M : Model} {A : Around} {E : Value → Shared → Prop} {env : Env} {nm q : Str} {K N : Addr} {bs bm : List Value} {hdct : Bool} {sn : List Str} {sub : List Value} {ab : Bool} {col : Option Bool} {dd : Option Addr} {k0 k1 k2 k3 k5 : Option Value} {newId : String}
 {s : Shared} {x : Sem Value} {Q : Flow → Shared → Prop} (hbase : bm.contains (.type "BaseException") = true) (hh : A.handled = none)
 (h : wpAny M A x (fun v s₁ => ∃ e t dx, v = .ref e ∧ s₁.heap.get? K = some (excClassObj nm q K N bs bm hdct sn sub ab col dd k0 k1 k2 k3 k5 newId) ∧
  s₁.heap.get? e = some { cls := .ref K, dict := some dx, data := .fields #[.ref t, .none, .none, .none, .bool false, .none] } ∧ E (.ref e) s₁) E s) :
 wpAny M A (raiseStmt env (some x) none) Q E s := by
 have hcB : (Value.ref K :: bm).contains (.type "BaseException") = true := by rw [List.contains_cons, hbase, Bool.or_true]
 unfold raiseStmt
 refine wpAny_bind (wpAny_mono h (fun v s₁ h₁ => ?_) fun _ _ x => x)
 refine Classical.byContradiction fun hG => ?_
 obtain ⟨e, t, dx, rfl, hC, he, hE⟩ := h₁
 refine hG ?_
 refine Classical.byContradiction fun hG => ?_
 obtain ⟨hp, g, d, tk, os⟩ := s₁
 refine hG ?_
 repeat (first | with_reducible refine wpAny_loadPart_at he ?_ | with_reducible refine wpAny_loadPart_at hC ?_ | (with_reducible refine wpAny_isSubtype_exc hC ?_; rw [hcB]) | wp_step)
 exact wpAny_raiseNew_none hh hE
set_option tactic.hygienic true in
theorem SndT.raise_ {e : Expr} {pos : Pos} {d : DE} (hq : 10 ≤ n) (he : SndE C n sc nm e d) : SndT C n sc nm (.Raise (some e) none pos) (sRaise d) := by
 intro A qn L f cd cl s ad fr σ Q E ro R o
 refine Classical.byContradiction fun hG => ?_
 obtain ⟨nm', qn', N, bs, bm, hdct, sn, sub, ab, col, dd, k0, k1, k2, k3, k5, newId, hC, hb, _⟩ := kts_cls C.X C.exc
 refine hG ?_
 rw [arm_exec_Raise]
 refine wpAny_bind (wpAny_standAt (raise_own (K := C.cls 1) (nm := nm') (q := qn') (N := N) (bs := bs) (hdct := hdct) (sn := sn) (sub := sub) (ab := ab) (col := col) (dd := dd) (k0 := k0) (k1 := k1) (k2 := k2) (k3 := k3) (k5 := k5) (newId := newId) hb (ro.quiet hq) ?_))
 show wpAny _ _ (do let v ← eval e (envX qn sc L f cd cl); standAt pos; pure v) _ _ _
 refine wpAny_bind (he A qn L f cd cl s ad fr σ _ E ro R (OutS.then_ o fun a σ₁ v h₁ t₁ ad₁ R₁ x₁ i₁ o => wpAny_bind (wpAny_standAt (wpAny_pure ?_))))
 split at o
 · rename_i k
   split at o
   · rename_i fs e
     refine Classical.byContradiction fun hG => ?_
     obtain ⟨p, hp, rfl⟩ := i₁.loc_inv
     refine hG ?_
     refine Classical.byContradiction fun hG => ?_
     obtain ⟨⟨vs, g, hr⟩, _⟩ := R₁.st.at hp e
     refine hG ?_
     obtain ⟨t, rfl⟩ := hr rfl
     exact ⟨p.1, t, p.2, rfl, R₁.st.keep _ _ hC, g, o _ h₁ t₁ ad₁ R₁ .refl i₁⟩
   · exact o.elim
 · exact o.elim
end
end Mine
end
section
open PySem PySem.W PySem.Calls PyProof.Rows Builtin Builtin.ObjectAttr
namespace Mine
noncomputable abbrev bmE : List Value := [.type "Exception", .type "BaseException", .type "object"]
noncomputable abbrev rawExc (C : Addr) (t : Addr) : Obj := { cls := .ref C, data := .fields #[.ref t, .none, .none, .none, .bool false, .none] }
structure ExcC (K : Frag) (C : Addr) : Prop where
 cls : ∃ (cd : ClassData) (bm : List Value) (dd : Option Addr) (k : Nat → Option Value), K.lookup C = some (excClassObj cd.name cd.qualname C cd.ns cd.bases bm cd.hasDict cd.slotNames cd.subclasses false cd.collection dd (k 0) (k 1) (k 2) (k 3) (k 5) "Exception.__new__") ∧ tailIn K bmE bm = true
 call : specialIn K (.ref C) "__call__" = some (some (.builtin "type.__call__"))
 typ : instIn K (.ref C) (.type "type") = some true
section
variable {prog : Program} {w : World} {A : Around} {K : Frag} {C : Addr} {R : Result → Shared → Prop} {h : Heap} {g : Array GenState} {d : Drawn} {t : Nat} {os : OsState}
theorem exc_core {rest : List Value} {init : Value} (X : K.In h) (Y : ExcC K C) (hi : Looks (model prog w) h (typeLookup (.ref C) "__init__") (some init))
 (hb : ∀ self, Looks (model prog w) h (bindSpecial init self) (init, [self])) (hrest : rest.length ≤ sizeLine)
 (hq : codeAny (model prog w) (A.under (.builtin "type.__call__" ⟨.ref C :: rest, []⟩)) (.call init ⟨.ref (h.objs.size + 1) :: rest, []⟩) (InitBack (h.objs.size + 1) R) ⟨(h.push { cls := .type "tuple", data := .seq rest.toArray }).push (rawExc C h.objs.size), g, d, t, os⟩) :
 codeAny (model prog w) A (.call (.ref C) ⟨rest, []⟩) R ⟨h, g, d, t, os⟩ := by
 refine Classical.byContradiction fun hG => ?_
 obtain ⟨⟨cd, bm, dd, kk, hK, hT⟩, hcall, htyp⟩ := Y
 refine hG ?_
 have hC := X _ _ hK
 have T := tail_of_in X hT
 have call : Looks (model prog w) h (specialOf (.ref C) "__call__") (some (.builtin "type.__call__")) := looks_specialIn X hcall
 have typ : Looks (model prog w) h (isInstance (.ref C) (.type "type")) true := looks_instIn X htyp
 have Fn := PySem.F.excBase_Exception
 refine codeAny_of_tree ?_
 show wpAny _ _ (callAny (.ref C) _) _ _ _
 refine nd_load hC ?_
 show wpAny _ _ (callAny.viaDunder (.ref C) _) _ _ _
 unfold callAny.viaDunder
 refine wpAny_bind (call.at ?_)
 dsimp only
 rw [tc_bind]
 refine wpAny_bind (wpAny_pure (wpAny_bind (wpAny_pure ?_)))
 refine wpAny_pure (a := Fin.again (.call (.builtin "type.__call__") ⟨.ref C :: rest, []⟩)) (And.intro rfl ?_)
 refine codeAny_call_builtin_at (Code.quiet_builtin _ (by decide +kernel)) entry_typeCall (check_slot tc_kind tc_split typ (tc_args _ _ _) ?_)
 unfold Builtin.«type.__call__»
 have hm : Looks (model prog w) h (mroOf (.ref C)) (.ref C :: bm) := ((Looks.ld (part := none) hC).andThen .now).andThen .now
 have made : Looks (model prog w) h (Bind.madeBy (.ref C)) (some "Exception.__new__") := fun A Q E s k q => by
  refine Classical.byContradiction fun hG => ?_
  obtain ⟨h', g', d', t', os'⟩ := s
  refine hG ?_
  exact wpAny_madeBy_exc (k _ _ hC) q
 have self : Looks (model prog w) h (isSubtype (.ref C) (.ref C)) true := fun A Q E s k q => by
  refine Classical.byContradiction fun hG => ?_
  obtain ⟨h', g', d', t', os'⟩ := s
  refine hG ?_
  refine wpAny_isSubtype_exc (k _ _ hC) ?_
  rw [show (Value.ref C :: bm).contains (.ref C) = true by simp]
  exact q
 repeat (first | simp only [List.isEmpty_cons, Bool.false_eq_true, if_false] | with_reducible refine wpAny_call ?_ | lk)
 refine codeAny_call_builtin_code (Code.quiet_builtin _ Fn.quiet) (wpAny_check_new_subU Fn (by decide) T hC ?_)
 refine codeAny_exc_new_subU Fn (by decide) Fn T hC ?_ hrest
 have k : ∀ b o, h.get? b = some o → ((h.push { cls := .type "tuple", data := .seq rest.toArray }).push (rawExc C h.objs.size)).get? b = some o := fun b o e => Heap.get?_push_of_some _ (Heap.get?_push_of_some _ e)
 have hx : ((h.push { cls := .type "tuple", data := .seq rest.toArray }).push (rawExc C h.objs.size)).get? (h.objs.size + 1) = some (rawExc C h.objs.size) := by heap_get
 have t1 : Looks (model prog w) ((h.push { cls := .type "tuple", data := .seq rest.toArray }).push (rawExc C h.objs.size)) (typeOf (.ref (h.objs.size + 1))) (.ref C) := (Looks.ld hx).andThen .now
 have s1 := self.keeps k
 have i1 := hi.keeps k
 have b1 := (hb (.ref (h.objs.size + 1))).keeps k
 unfold isInstance callSpecial? specialOf
 repeat (first | with_reducible refine wpAny_call ?_ | lk)
 refine codeAny_mono hq fun r s' z => ?_
 rcases r with e | (v | _ | _ | _) <;> first | exact z | exact z.elim | skip
 obtain ⟨rfl, z⟩ := z
 exact wpAny_pure (wpAny_pure z)
structure ExcS (K : Frag) (C : Addr) (name : Str) : Prop where
 setA : findIn K (.ref C) "__setattr__" = some (some (.builtin "object.__setattr__"))
 no : findIn K (.ref C) name = some none
 mro : ∃ P cd, clsIn K C = some cd ∧ cd.mro = .ref C :: .ref P :: bmE ∧ cd.hasDict = true
theorem exc_set {x tx : Addr} {name : Str} {v : Value} {E : Value → Shared → Prop} {Q : Unit → Shared → Prop} (X : K.In h) (Y : ExcS K C name) (hx : h.get? x = some (rawExc C tx))
 (hq : ∀ h' t' dk, h'.get? x = some { cls := .ref C, dict := some h.objs.size, data := .fields #[.ref tx, .none, .none, .none, .bool false, .none] } → h'.get? h.objs.size = some (dictOf [⟨PyData.keyHash w.params name, .str name dk, v⟩] 1) →
  (∀ b o, h.get? b = some o → b ≠ x → h'.get? b = some o) → Q () ⟨h', g, d, t', os⟩) :
 wpAny (model prog w) A (setAttr (.ref x) name v) Q E ⟨h, g, d, t, os⟩ := by
 refine Classical.byContradiction fun hG => ?_
 obtain ⟨hsA, hno, P, cd, hcl, hmro, hhd⟩ := Y
 refine hG ?_
 have SF := PySem.F.store_Exception
 have t1 : Looks (model prog w) h (typeOf (.ref x)) (.ref C) := (Looks.ld hx).andThen .now
 have f1 : Looks (model prog w) h (typeLookup (.ref C) "__setattr__") (some (.builtin "object.__setattr__")) := looks_findIn X hsA
 have f2 : Looks (model prog w) h (typeLookup (.ref C) name) none := looks_findIn X hno
 have hm : Looks (model prog w) h (mroOf (.ref C)) cd.mro := (looks_clsIn X hcl).andThen .now
 have sub : Looks (model prog w) h (isInstance (.ref x) (.type "object")) true := t1.andThen (looks_mroIn X (by unfold mroIn; rw [hcl, Option.bind_some, hmro]; rfl))
 have f3 := SF.slot.bind (.ref x)
 unfold setAttr callSpecial? specialOf
 repeat (first | rw [f3] | with_reducible refine wpAny_call ?_ | lk)
 show codeAny _ A (.call (.builtin "object.__setattr__") ⟨[.ref x, .str name t, v], []⟩) _ _
 refine codeAny_call_builtin SF.slot.plain SF.entry (@check_slot (model prog w) _ _ _ "object.__setattr__" "object" "__setattr__" (.ref x) [.str name t, v] [] _ SF.kind SF.split sub (SF.args (.ref x) (.str name t) v) ?_)
 rw [osa_eq, refuse_eq]
 refine wpAny_bind (wpAny_bind (t1.at (wpAny_bind (hm.at ?_))))
 rw [hmro, refuseLoop_ref, refuseLoop_ref, SF.passes]
 refine wpAny_pure (wpAny_bind (t1.at (wpAny_bind (f2.at (wpAny_bind (wpAny_pure ?_))))))
 dsimp only
 have hxs : x ≠ h.objs.size := Nat.ne_of_lt (Heap.lt_size hx)
 have hx₁ : (h.push { cls := .type "dict", data := .dict #[] }).get? x = some (rawExc C tx) := Heap.get?_push_of_some _ hx
 refine wpAny_bind (wpAny_pure (wpAny_bind (wpAny_bind (wpAny_loadPart hx (wpAny_bind ((looks_clsIn X hcl).at ?_))))))
 rw [hhd]
 dsimp only
 show wpAny _ _ (alloc { cls := .type "dict", data := .dict #[] } >>= _) _ _ _
 refine wpAny_bind (wpAny_alloc' (wpAny_bind (wpAny_update' hx₁ ?_)))
 refine wpAny_pure (a := some h.objs.size) ?_
 show wpAny _ _ (storeInDict h.objs.size (.str name t) name v) _ _ _
 have D : ((h.push { cls := .type "dict", data := .dict #[] }).update x fun o => { cls := o.cls, dict := some h.objs.size, data := o.data, slots := o.slots }).get? h.objs.size = some emptyDict :=
  (Heap.get?_update_ne _ _ _ _ hxs.symm).trans (Heap.get?_push_at rfl rfl)
 have Dx : ((h.push { cls := .type "dict", data := .dict #[] }).update x fun o => { cls := o.cls, dict := some h.objs.size, data := o.data, slots := o.slots }).get? x = some { cls := .ref C, dict := some h.objs.size, data := .fields #[.ref tx, .none, .none, .none, .bool false, .none] } := Heap.get?_update_self _ hx₁ rfl
 have Db : ∀ b o, h.get? b = some o → b ≠ x → ((h.push { cls := .type "dict", data := .dict #[] }).update x fun o => { cls := o.cls, dict := some h.objs.size, data := o.data, slots := o.slots }).get? b = some o := fun b o e hb => (Heap.get?_update_ne _ _ _ _ hb).trans (Heap.get?_push_of_some _ e)
 generalize (h.push { cls := .type "dict", data := .dict #[] }).update x (fun o => { cls := o.cls, dict := some h.objs.size, data := o.data, slots := o.slots }) = h₁ at D Dx Db ⊢
 unfold storeInDict newKeyGuard
 refine wpAny_bind (wpAny_pure (wpAny_bind ?_))
 unfold nsSet
 refine wpAny_bind (wpAny_bind (wpAny_askSetting (wpAny_pure (wpAny_bind (wpAny_mkText (wpAny_bind (wpAny_loadPart D ?_)))))))
 dsimp only
 rw [show aRefKeyMayBeTheName name #[] = false from rfl, if_neg (by decide)]
 have P : Obj.putName name (PyData.keyHash w.params name) (.str name (t + 1)) v emptyDict = dictOf [⟨PyData.keyHash w.params name, .str name (t + 1), v⟩] 1 := by
  rfl
 have hk : (if name.cps.isEmpty = true then 0 else reduceHash ((model prog w).w.params.strHash name.cps)) = PyData.keyHash w.params name := rfl
 rw [hk]
 refine wpAny_updatePart D ?_
 have D2 : (h₁.update h.objs.size (Obj.putName name (PyData.keyHash w.params name) (.str name (t + 1)) v)).get? h.objs.size = some (dictOf [⟨PyData.keyHash w.params name, .str name (t + 1), v⟩] 1) := by
  rw [← P]; exact Heap.get?_update_self _ D rfl
 refine wpAny_bind (wpAny_lookBehind D2 (pastItsLine_dict (by rw [List.size_toArray, sizeLine_eq]; exact Nat.le_of_ble_eq_true rfl)) ?_)
 refine wpAny_pure (wpAny_pure (wpAny_pure (hq _ _ _ ?_ D2 fun b o e hb => ?_)))
 · exact (Heap.get?_update_ne _ _ _ _ hxs).trans Dx
 · exact (Heap.get?_update_ne _ _ _ _ (Nat.ne_of_lt (Heap.lt_size e))).trans (Db b o e hb)
end
set_option tactic.hygienic true in
theorem exc_snd {C : Ctx} {fI : Addr} (Y : ExcC C.K (C.cls 1)) (Z : ExcS C.K (C.cls 1) "ball") (hi : findIn C.K (.ref (C.cls 1)) "__init__" = some (some (.ref fI))) (hf : isFn C.K (.ref fI) = true)
 (ho : FnAt C fI (fnB (stIn 3 0)) (fnSc (stIn 3 0)) (["self", "ball"] : List Str) 2 []) : FnSnd C 12 (.ref (C.cls 1)) spExc := by
 intro A s ad σ vs avs R ro S hz i o
 unfold spExc at o
 split at o
 · rename_i b
   refine Classical.byContradiction fun hG => ?_
   obtain ⟨v, rfl, iv⟩ := i.one_inv
   refine hG ?_
   refine Classical.byContradiction fun hG => ?_
   obtain ⟨hh, g, d, t, os⟩ := s
   refine hG ?_
   dsimp only at S hz i iv o
   have X := S.inK
   have sz : sizeLine = 16777216 := by decide
   refine exc_core X Y (looks_findIn X hi) (fun self => bind_fn X self (beq_iff_eq.mp hf)) (by rw [sz]; exact Nat.le_of_ble_eq_true rfl) ?_
   have k0 : ∀ b o, hh.get? b = some o → ((hh.push { cls := .type "tuple", data := .seq [v].toArray }).push (rawExc (C.cls 1) hh.objs.size)).get? b = some o := fun b o e => Heap.get?_push_of_some _ (Heap.get?_push_of_some _ e)
   have gx : ((hh.push { cls := .type "tuple", data := .seq [v].toArray }).push (rawExc (C.cls 1) hh.objs.size)).get? (hh.objs.size + 1) = some (rawExc (C.cls 1) hh.objs.size) := by heap_get
   have nx : hh.get? (hh.objs.size + 1) = none := none_of_size (Nat.le_succ _)
   have sz1 : hh.objs.size + 1 < ((hh.push { cls := .type "tuple", data := .seq [v].toArray }).push (rawExc (C.cls 1) hh.objs.size)).objs.size := Heap.lt_size gx
   generalize (hh.push { cls := .type "tuple", data := .seq [v].toArray }).push (rawExc (C.cls 1) hh.objs.size) = h₁ at k0 gx sz1 ⊢
   have X1 : C.K.In h₁ := X.keeps k0
   have hcell : ∀ x ∈ (fnSc (stIn 3 0)).names, x.2 ≠ .cell := by decide +kernel
   have S0 : FnS (fnSc (stIn 3 0)) (["self", "ball"] : List Str) ([] : List Str) := ⟨rfl, by decide +kernel, by decide +kernel, by decide +kernel, by decide +kernel⟩
   have T1 : h₁.NoLimit := (C.T.nolimit.keeps S.keep).keeps k0
   refine ho.call (locs := []) (s := ⟨h₁, g, d, t, os⟩) S0 hcell rfl rfl ?_ X1 T1 rfl fun qual cdv dvs h₂ hd ns k2 e he => ?_
   · have := ro.depth
     have w : (Code.builtin "type.__call__" ⟨.ref (C.cls 1) :: [v], []⟩).weight = 1 := by with_unfolding_all rfl
     show A.depth + _ < recursionLimit
     tb_rel
   · cases hd [] hh
     subst he
     have F : Fr h₁ h₁.objs.size h₂ (fun x => ((["self", "ball"] : List Str).zip ([.ref (hh.objs.size + 1), v] ++ [])).reverse.lookup x) := ⟨ns, k2, Nat.le_refl _⟩
     have e1 : ((["self", "ball"] : List Str).zip ([.ref (hh.objs.size + 1), v] ++ [])).reverse.lookup ("ball" : Str) = some v := rfl
     have e2 : ((["self", "ball"] : List Str).zip ([.ref (hh.objs.size + 1), v] ++ [])).reverse.lookup ("self" : Str) = some (.ref (hh.objs.size + 1)) := by
      show List.lookup _ [(("ball" : Str), v), ("self", .ref (hh.objs.size + 1))] = _
      rw [List.lookup_cons]
      have : (("self" : Str) == "ball") = false := by decide +kernel
      rw [this]
      simp
     refine wpAny_execs_cons (plainObj_wpAny_Assign_Attribute (nameX_L F e1 (nameX_L F e2 ?_ S0.kind (S0.loc _ (by decide)) (by decide +kernel)) S0.kind (S0.loc _ (by decide)) (by decide +kernel)) rfl)
     refine exc_set (X1.keeps k2) Z (k2 _ _ gx) fun h3 t3 dk g3 d3 k3 => ?_
     have k : ∀ b o, hh.get? b = some o → h3.get? b = some o := fun b o e => k3 b o (k2 _ _ (k0 _ _ e)) fun q => by
      rw [q, nx] at e; cases e
     have nd : hh.get? h₂.objs.size = none := by
      cases q : hh.get? h₂.objs.size with
      | none => rfl
      | some o => have := k2 _ _ (k0 _ _ q); rw [push_new h₂] at this; cases this
     have iv3 : VIn (ad ++ [(hh.objs.size + 1, h₂.objs.size)]) h3 v b := iv.mono idx_more fun _ _ _ e => k _ _ e
     refine wpAny_execs_nil ⟨rfl, o _ h3 t3 (ad ++ [(hh.objs.size + 1, h₂.objs.size)]) (S.add k nx nd ⟨⟨_, g3, fun _ => ⟨_, rfl⟩⟩, _, _, d3, .cons (k := 4) rfl rfl iv3 .nil⟩) (Ext.add k nx nd) ?_⟩
     exact .loc (p := (hh.objs.size + 1, h₂.objs.size)) (by rw [← S.len]; simp)
 · exact o.elim
end Mine
end
section
open PySem PySem.W PySem.Calls PyProof.Rows Builtin Builtin.ObjectAttr
namespace Mine
theorem slot_ga : Slot "Exception" "__getattribute__" "BaseException.__getattribute__" :=
 .of (owner := "BaseException") (n := "__getattribute__") (by rw [typeLookup_type, builtinLookup_eq_fast]; kernel_rfl) (by decide +kernel) (by decide +kernel) (by decide +kernel)
  (by first | exact .inl (by decide +kernel) | exact .inr (by decide +kernel)) (by rw [isSubtype_type]; kernel_rfl)
structure ExcG (K : Frag) (C : Addr) (name : Str) : Prop where
 ga : findIn K (.ref C) "__getattribute__" = some (some (.builtin "BaseException.__getattribute__"))
 gt : findIn K (.ref C) "__getattr__" = some none
 no : findIn K (.ref C) name = some none
 sub : mroIn K C (.type "BaseException") = some true
 dict : hasDictIn K C = true
section
variable {prog : Program} {w : World} {A : Around} {K : Frag} {C : Addr} {h : Heap} {g : Array GenState} {d : Drawn} {t : Nat} {os : OsState}
theorem exc_get {x : Addr} {ox : Obj} {es : List DictEntry} {n : Nat} {name : Str} {v : Value} {expr : Bool} {E : Value → Shared → Prop} {Q : Value → Shared → Prop} (X : K.In h) (Y : ExcG K C name) (I : InstAt h x ox C (some (dictOf es n)))
 (hl : getL name es = some (some v)) (hh : handedIn v = true) (hq : Q v ⟨h, g, d, t + 1, os⟩) : wpAny (model prog w) A (getAttr (.ref x) name expr) Q E ⟨h, g, d, t, os⟩ := by
 obtain ⟨hga, hgt, hno, hsub, hd⟩ := Y
 have L0 := I.type (M := model prog w)
 have L1 : Looks (model prog w) h (typeLookup (.ref C) "__getattribute__") (some (.builtin "BaseException.__getattribute__")) := looks_findIn X hga
 have L2 : Looks (model prog w) h (typeLookup (.ref C) "__getattr__") none := looks_findIn X hgt
 have L3 := looks_find (M := model prog w) X I (findObj_own (name := name) hd hno rfl hl)
 have sub : Looks (model prog w) h (isInstance (.ref x) (.type "BaseException")) true := L0.andThen (looks_mroIn X hsub)
 have f3 := slot_ga.bind (.ref x)
 have hx0 : (expr && onTheHeap (Value.builtin "BaseException.__getattribute__")) = false := by cases expr <;> rfl
 have hx2 : (Value.builtin "BaseException.__getattribute__" == Value.builtin "object.__getattribute__") = false := by decide +kernel
 have hx1 : (onTheHeap (Value.ref C) && Value.builtin "BaseException.__getattribute__" == Value.builtin "object.__getattribute__") = false := by rw [hx2]; rfl
 unfold getAttr getAttrBy
 repeat (first | simp only [hx1, Bool.false_eq_true, if_false] | lk)
 show wpAny _ _ ((holding none.toList (callGetattribute (Value.ref x) (Value.str name t) (Value.builtin "BaseException.__getattribute__") expr)).attempt) _ _ _
 refine wpAny_attempt (wpAny_holding ?_)
 unfold callGetattribute boundAndCalled
 rw [hx0, if_neg (by decide), f3]
 refine wpAny_bind (wpAny_pure (wpAny_call ?_))
 show codeAny _ A (.call (.builtin "BaseException.__getattribute__") ⟨[.ref x, .str name t], []⟩) _ _
 refine codeAny_call_builtin slot_ga.plain PySem.F.entry_bexc_ga (@check_slot (model prog w) _ _ _ "BaseException.__getattribute__" "BaseException" "__getattribute__" (.ref x) [.str name t] [] _ (by decide +kernel) (by decide +kernel) sub (PySem.F.args_bexc_ga _ _) ?_)
 unfold Builtin.«object.__getattribute__»
 refine wpAny_bind (wpAny_of_eq (a := (Value.ref x, [Value.str name t])) (by kernel_rfl) (wpAny_bind (wpAny_of_eq (a := name) (by kernel_rfl) (wpAny_bind (L0.at (wpAny_bind (L3.at ?_)))))))
 refine wpAny_pure ?_
 show wpAny _ _ (handedOut v) _ _ _
 rw [handedOut_of hh]; exact wpAny_pure hq
end
end Mine
end
section
open PySem PySem.W PySem.Calls PyProof.Rows
namespace Mine
structure Kp (S : List Addr) (e : Addr) (hr h : Heap) : Prop where
 other : ∀ b o, hr.get? b = some o → b ∉ S → b ≠ e → h.get? b = some o
 slots : ∀ b o, hr.get? b = some o → b ∈ S → ∃ sl, h.get? b = some { o with slots := sl }
structure Fly (S : List Addr) (e d C : Addr) (fl : Value) (hr h : Heap) : Prop extends Kp S e hr h where
 at_ : ∃ vs T oT ts, h.get? e = some ⟨.ref C, some d, .fields vs, #[]⟩ ∧ vs[1]? = some (.ref T) ∧ hr.get? T = none ∧ h.get? T = some oT ∧ oT.data = .fields ts ∧ ts[3]? = some fl
noncomputable def FrS (hr : Heap) (S : List Addr) (l : List Env) : Prop := ∀ env ∈ l, env.scope.kind ≠ .module ∧ ∃ L o, env.frame = some L ∧ L ∈ S ∧ hr.get? L = some o ∧ ∀ vs, o.data ≠ .fields vs
noncomputable def nilHeap : Heap := ⟨#[], {}⟩
theorem nil_get (b : Addr) : nilHeap.get? b = none := none_of_size (Nat.zero_le _)
theorem FrS.fun {hr h : Heap} {S : List Addr} {e : Addr} (k : Kp S e hr h) : ∀ {l : List Env}, FrS hr S l → h.FunFrames nilHeap l
 | [], _ => trivial
 | env :: r, F => by
  obtain ⟨h1, L, o, h2, h3, h4, h5⟩ := F env (.head _)
  obtain ⟨sl, h6⟩ := k.slots L o h4 h3
  exact ⟨h1, ⟨L, _, h2, nil_get _, h6, h5⟩, FrS.fun k fun e he => F e (.tail _ he)⟩
theorem FrS.sub {hr : Heap} {S : List Addr} {l : List Env} (F : FrS hr S l) : ∀ b ∈ l.filterMap (·.frame), b ∈ S ∧ ∃ o, hr.get? b = some o ∧ ∀ vs, o.data ≠ .fields vs := fun b hb => by
 obtain ⟨env, h1, h2⟩ := List.mem_filterMap.mp hb
 obtain ⟨_, L, o, h3, h4, h5, h6⟩ := F env h1
 rw [h2] at h3; cases h3
 exact ⟨h4, o, h5, h6⟩
theorem Kp.grow {S : List Addr} {e : Addr} {hr h : Heap} (k : Kp S e hr h) (he : ∃ o, h.get? e = some o) : ∀ b o, hr.get? b = some o → ∃ o', h.get? b = some o' := fun b o q => by
 by_cases hs : b ∈ S
 · obtain ⟨sl, z⟩ := k.slots b o q hs; exact ⟨_, z⟩
 · by_cases hb : b = e
   · subst hb; exact he
   · exact ⟨o, k.other b o q hs hb⟩
section
variable {M : Model} {A : Around} {E : Value → Shared → Prop} {s : Shared} {S : List Addr} {e d C : Addr} {hr : Heap} {env : Env} {outer : List Env} {L : Addr} {Q : Unit → Shared → Prop}
theorem entry_core {vs : Array Value} {head : Value} {b : Bool} (hfr : A.frames = some (env :: outer)) (hf : env.frame = some L) (F : FrS hr S (env :: outer)) (heS : e ∉ S) (k : Kp S e hr s.heap)
 (he : s.heap.get? e = some ⟨.ref C, some d, .fields vs, #[]⟩) (hz : 1 < vs.size) (hQ : ∀ h', Fly S e d C (rawInt L) hr h' → Q () { s with heap := h' }) :
 wpAny M A (do let a ← frameOf env; let pl ← entryPlaceOf L b; let x ← EntryCells.newEntry head a .none (rawInt L) .none pl; setField (.ref e) 1 x) Q E s := by
 refine wpAny_bind (wpAny_frameOf_fun hfr (F.fun k) hf fun h₁ hs₁ => ?_)
 refine wpAny_bind (wpAny_entryPlaceOf fun pl hpl => ?_)
 unfold EntryCells.newEntry newFields
 refine wpAny_bind (wpAny_newObj_type ?_ (hpl.sizeOk5 _ _ _ _ _))
 have sub := F.sub
 have he₁ : h₁.get? e = some ⟨.ref C, some d, .fields vs, #[]⟩ := (hs₁.2.1 e fun q => heS (sub _ q).1).trans he
 have he₂ := Heap.get?_push_of_some (h := h₁) { cls := .type "traceback", dict := none, data := .fields ([head, .ref L, .none, rawInt L, .none] ++ (if pl.isEmpty then List.replicate 6 Value.none else pl)).toArray } he₁
 refine wpAny_setField he₂ rfl hz (hQ _ ?_)
 have hTe : h₁.objs.size ≠ e := Nat.ne_of_gt (Heap.lt_size he₁)
 have gr := k.grow ⟨_, he⟩
 have up : ∀ b o, s.heap.get? b = some o → ∃ sl, h₁.get? b = some { o with slots := sl } := hs₁.2.2
 have nT : hr.get? h₁.objs.size = none := by
  cases q : hr.get? h₁.objs.size with
  | none => rfl
  | some o =>
   obtain ⟨o', z⟩ := gr _ _ q
   obtain ⟨sl', z'⟩ := up _ _ z
   rw [push_new h₁] at z'; cases z'
 have fin : ∀ b o, h₁.get? b = some o → b ≠ e → ((h₁.push { cls := .type "traceback", dict := none, data := .fields ([head, .ref L, .none, rawInt L, .none] ++ (if pl.isEmpty then List.replicate 6 Value.none else pl)).toArray }).update e
  (Obj.mapFields (·.setIfInBounds 1 (Value.ref h₁.objs.size)))).get? b = some o := fun b o q hb => by
  rw [Heap.get?_update_other _ _ (Ne.symm hb)]
  exact Heap.get?_push_of_some _ q
 have hT' := (Heap.get?_update_other (h₁.push { cls := .type "traceback", dict := none, data := .fields ([head, .ref L, .none, rawInt L, .none] ++ (if pl.isEmpty then List.replicate 6 Value.none else pl)).toArray })
  (Obj.mapFields (·.setIfInBounds 1 (Value.ref h₁.objs.size))) (Ne.symm hTe)).trans (Heap.get?_push_size h₁ rfl)
 refine ⟨⟨fun b o q hS hb => ?_, fun b o q hS => ?_⟩, vs.setIfInBounds 1 (.ref h₁.objs.size), h₁.objs.size, _, _, Heap.get?_update_self _ he₂ rfl, by simp [hz], nT, hT', rfl, by simp⟩
 · exact fin b o ((hs₁.2.1 b fun z => hS (sub _ z).1).trans (k.other b o q hS hb)) hb
 · obtain ⟨sl1, z⟩ := k.slots b o q hS
   obtain ⟨sl2, z2⟩ := up _ _ z
   exact ⟨sl2, fin b _ z2 fun z => heS (z ▸ hS)⟩
theorem Kp.same {h h' : Heap} {T : Addr} (k : Kp S e hr h) (hT : hr.get? T = none) (o : ∀ b, b ≠ T → h'.get? b = h.get? b) : Kp S e hr h' :=
 ⟨fun b ob q hS hb => (o b fun z => by rw [z, hT] at q; cases q).trans (k.other b ob q hS hb), fun b ob q hS => by
  obtain ⟨sl, z⟩ := k.slots b ob q hS
  exact ⟨sl, (o b fun z => by rw [z, hT] at q; cases q).trans z⟩⟩
theorem fly_down {fl : Value} (hre : ∃ o, hr.get? e = some o) (X : Fly S e d C fl hr s.heap) (hQ : ∀ h', Fly S e d C .none hr h' → Q () { s with heap := h' }) : wpAny M A (setFlight (.ref e) none) Q E s := by
 obtain ⟨k, vs, T, oT, ts, he, h1, nT, hT, hdT, h3⟩ := X
 have hTe : T ≠ e := fun q => by obtain ⟨o, z⟩ := hre; rw [← q, nT] at z; cases z
 unfold setFlight
 refine wpAny_bind (wpAny_field he rfl h1 ?_)
 rw [if_pos (show (Value.ref T != Value.none) = true from by simp)]
 have other : ∀ b, b ≠ T → (s.heap.update T (Obj.mapFields (·.setIfInBounds 3 ((none : Option Addr).elim Value.none fun f => rawInt f)))).get? b = s.heap.get? b := fun b hb => Heap.get?_update_other _ _ (Ne.symm hb)
 have hz := (Array.getElem?_eq_some_iff.mp h3).1
 refine wpAny_setField hT hdT hz (hQ _ ⟨k.same nT other, vs, T, _, _, (other e (Ne.symm hTe)).trans he, h1, nT, Heap.get?_update_self _ hT (Obj.isFreed_of_fields (Obj.data_mapFields hdT _)), Obj.data_mapFields hdT _, ?_⟩)
 simp [hz]
theorem note_new {vs : Array Value} (hfr : A.frames = some (env :: outer)) (hf : env.frame = some L) (F : FrS s.heap S (env :: outer)) (heS : e ∉ S)
 (he : s.heap.get? e = some ⟨.ref C, some d, .fields vs, #[]⟩) (h1 : vs[1]? = some .none) (hQ : ∀ h', Fly S e d C (rawInt L) s.heap h' → Q () { s with heap := h' }) : wpAny M A (noteFrame (.ref e) env) Q E s := by
 unfold noteFrame
 simp only [hf]
 refine wpAny_bind (wpAny_field he rfl h1 ?_)
 rw [if_neg (by decide)]
 exact entry_core hfr hf F heS ⟨fun b o q _ _ => q, fun b o q _ => ⟨o.slots, q⟩⟩ he (Array.getElem?_eq_some_iff.mp h1).1 hQ
theorem note_fly (hfr : A.frames = some (env :: outer)) (hf : env.frame = some L) (F : FrS hr S (env :: outer)) (heS : e ∉ S) (hre : ∃ o, hr.get? e = some o) (X : Fly S e d C .none hr s.heap) (hQ : ∀ h', Fly S e d C (rawInt L) hr h' → Q () { s with heap := h' }) : wpAny M A (noteFrame (.ref e) env) Q E s := by
 obtain ⟨k, vs, T, oT, ts, he, h1, nT, hT, hdT, h3⟩ := X
 have hTe : T ≠ e := fun q => by obtain ⟨o, z⟩ := hre; rw [← q, nT] at z; cases z
 unfold noteFrame
 simp only [hf]
 refine wpAny_bind (wpAny_field he rfl h1 ?_)
 rw [if_pos (show (Value.ref T != Value.none) = true from by simp)]
 refine wpAny_bind (wpAny_field hT hdT h3 ?_)
 rw [if_neg (show ¬ ((Value.none == rawInt L) = true) from by simp [rawInt])]
 have other : ∀ b, b ≠ T → (s.heap.update T (Obj.mapFields (·.setIfInBounds 3 Value.none))).get? b = s.heap.get? b := fun b hb => Heap.get?_update_other _ _ (Ne.symm hb)
 refine wpAny_bind (wpAny_setField hT hdT (Array.getElem?_eq_some_iff.mp h3).1 ?_)
 exact entry_core hfr hf F heS (k.same nT other) ((other e (Ne.symm hTe)).trans he) (Array.getElem?_eq_some_iff.mp h1).1 hQ
theorem leaving_new {vs : Array Value} (hfr : A.frames = some (env :: outer)) (hf : env.frame = some L) (F : FrS s.heap S (env :: outer)) (heS : e ∉ S)
 (he : s.heap.get? e = some ⟨.ref C, some d, .fields vs, #[]⟩) (h1 : vs[1]? = some .none) (hQ : ∀ h', Fly S e d C .none s.heap h' → Q () { s with heap := h' }) : wpAny M A (leaving env (.ref e)) Q E s := by
 unfold leaving
 exact wpAny_bind (note_new hfr hf F heS he h1 fun h' X => fly_down (s := { s with heap := h' }) ⟨_, he⟩ X fun h'' X' => hQ h'' X')
end
end Mine
end
section
open PySem PySem.W PySem.Calls PyProof.Rows
namespace Mine
noncomputable def sTryOk (d : DS) : DS := fun fr σ => match d fr σ with
 | .ok .next fr σ => .ok .next fr σ
 | _ => .stuck
noncomputable def dBall (d : DE) : DE := fun fr σ => (d fr σ).bind fun a σ => match a with
 | .loc n => (match σ[n]? with
  | some (.exc _ 1 fs) => (match fs.lookup 4 with
   | some v => .ok v σ
   | none => .stuck)
  | _ => .stuck)
 | _ => .stuck
noncomputable def subArgs : Stmt → List Expr
 | .Try [.Assign _ (.Call _ [.Call _ as _ _] _ _) _] _ _ _ _ => as
 | _ => []
noncomputable def tryHB : Stmt → List Stmt
 | .Try _ [.ExceptHandler _ _ b _] _ _ _ => b
 | _ => []
section
variable {C : Ctx} {n : Nat} {sc : Scope} {nm gn : List Str}
theorem SndT.tryOk {b : List Stmt} {h₀ : ExceptHandler} {hs : List ExceptHandler} {pos : Pos} {d : DS} (hb : SndS C n sc nm b d) : SndT C n sc nm (.Try b (h₀ :: hs) [] [] pos) (sTryOk d) := by
 intro A qn L f cd cl s ad fr σ Q E ro R o
 refine wpAny_Try_except ?_
 unfold sTryOk at o
 have bo := hb A qn L f cd cl s ad fr σ
 generalize d fr σ = r at o bo
 cases r with
 | stuck => exact o.elim
 | exc a fr' σ' => exact o.elim
 | ok fl fr' σ' =>
  cases fl <;> first | exact o.elim | skip
  refine wpAny_mono (bo _ (fun _ _ => False) ro R (fun f h t ad' R' x i => ?_)) (fun _ _ y => y) (fun _ _ y => y.elim)
  cases f <;> first | exact i.elim | skip
  exact wpAny_execs_nil (o .next h t ad' R' x trivial)
set_option tactic.hygienic true in
theorem SndE.ball {e : Expr} {d : DE} {pos : Pos} (G : ExcG C.K (C.cls 1) "ball") (hb : ∀ env (w : Sem Value), attributeBase e "ball" env w = w) (he : SndE C n sc nm e d) : SndE C n sc nm (.Attribute e "ball" pos) (dBall d) := by
 intro A qn L f cd cl s ad fr σ Q E ro R o
 refine Attribute_any_ (he A qn L f cd cl s ad fr σ _ E ro R (OutX.bind o fun a σ₁ v h₁ t₁ ad₁ R₁ x₁ i₁ o => ?_)) (by rw [arm_eval_Attribute, hb])
 split at o
 · rename_i j
   obtain ⟨p, hp, rfl⟩ := i₁.loc_inv
   split at o
   · rename_i raw fs e
     split at o
     · rename_i b hbb
       obtain ⟨des, w, ox, I, g, r⟩ := attr_exc R₁.st hp e
       have z := r.get (k := 4) (by decide)
       rw [hbb] at z
       obtain ⟨f1, u, h1, h2⟩ := z
       obtain ⟨hh, gg, d', t, os⟩ := s
       exact exc_get (name := "ball") R₁.st.inK G I h1 h2.handed (OutX.same o _ R₁ h2)
     · exact o.elim
   · exact o.elim
 · exact o.elim
end
end Mine
end
section
open PySem PySem.W PySem.Calls PyProof.Rows
namespace Mine
noncomputable def d_fixed_atoms : DS := (SQ (sRet (dTup (lCst [.str [91, 93], .str [46], .str [123, 125], .str [45], .str [43], .str [42], .str [47], .str [44], .str [124], .str [59], .str [45, 62], .str [92, 43], .str [58, 45], .str [63, 45], .str [45, 45, 62], .str [33], .str [116, 114, 117, 101], .str [102, 97, 105, 108], .str [102, 97, 108, 115, 101], .str [99, 97, 108, 108], .str [61], .str [94], .str [101, 114, 114, 111, 114], .str [], .str [101, 110, 100, 95, 111, 102, 95, 102, 105, 108, 101], .str [115, 121, 115, 116, 101, 109], .str [36, 86, 65, 82], .str [99, 97, 116, 99, 104], .str [116, 104, 114, 111, 119]]))) SN)
noncomputable def sp_fixed_atoms : Spec := fnSpec 0 [] 0 d_fixed_atoms
noncomputable def d_fixed_functors : DS := (SQ (sRet (dTup (lCst [.tup [.str [46], .int 2], .tup [.str [44], .int 2], .tup [.str [59], .int 2], .tup [.str [45, 62], .int 2], .tup [.str [92, 43], .int 1], .tup [.str [58, 45], .int 2], .tup [.str [58, 45], .int 1], .tup [.str [63, 45], .int 1], .tup [.str [45, 45, 62], .int 2], .tup [.str [123, 125], .int 1], .tup [.str [61], .int 2], .tup [.str [94], .int 2], .tup [.str [45], .int 1], .tup [.str [45], .int 2], .tup [.str [43], .int 2], .tup [.str [47], .int 2], .tup [.str [101, 114, 114, 111, 114], .int 2], .tup [.str [36, 86, 65, 82], .int 1], .tup [.str [99, 97, 116, 99, 104], .int 3], .tup [.str [116, 104, 114, 111, 119], .int 1], .tup [.str [33], .int 0], .tup [.str [116, 114, 117, 101], .int 0], .tup [.str [102, 97, 105, 108], .int 0], .tup [.str [102, 97, 108, 115, 101], .int 0], .tup [.str [99, 97, 108, 108], .int 1], .tup [.str [99, 97, 108, 108], .int 2], .tup [.str [99, 97, 108, 108], .int 3], .tup [.str [99, 97, 108, 108], .int 4], .tup [.str [99, 97, 108, 108], .int 5], .tup [.str [99, 97, 108, 108], .int 6], .tup [.str [99, 97, 108, 108], .int 7], .tup [.str [99, 97, 108, 108], .int 8]]))) SN)
noncomputable def sp_fixed_functors : Spec := fnSpec 0 [] 0 d_fixed_functors
noncomputable def d_sy_atom : DS := (SQ (QA 2 (dMethB .dict spGet (dAttr 1 (DV 0)) (LC (DV 1) (LC (dNeg (DC (.int 1))) LN)))) (SQ (sIf (bVal (dCmp .GtE (DV 2) (DC (.int 0)))) (SQ (sRet (DV 2)) SN) SN) (SQ (QA 3 (dCall spLen (LC (dAttr 0 (DV 0)) LN))) (SQ (sExpr (dMethB .list spAppend (dAttr 0 (DV 0)) (LC (DV 1) LN))) (SQ (sSetItem (DV 3) (dAttr 1 (DV 0)) (DV 1)) (SQ (sRet (DV 3)) SN))))))
noncomputable def sp_sy_atom : Spec := fnSpec 2 [] 2 d_sy_atom
noncomputable def d_sy_functor : DS := (SQ (QA 3 (dTup (LC (DV 1) (LC (DV 2) LN)))) (SQ (QA 4 (dMethB .dict spGet (dAttr 3 (DV 0)) (LC (DV 3) (LC (dNeg (DC (.int 1))) LN)))) (SQ (sIf (bVal (dCmp .GtE (DV 4) (DC (.int 0)))) (SQ (sRet (DV 4)) SN) SN) (SQ (QA 5 (dCall spLen (LC (dAttr 2 (DV 0)) LN))) (SQ (sExpr (dMethB .list spAppend (dAttr 2 (DV 0)) (LC (DV 3) LN))) (SQ (sSetItem (DV 5) (dAttr 3 (DV 0)) (DV 3)) (SQ (sRet (DV 5)) SN)))))))
noncomputable def sp_sy_functor : Spec := fnSpec 3 [] 3 d_sy_functor
noncomputable def d_sy_func : DS := (SQ (sRet (dMeth 0 sp_sy_functor (DV 0) (LC (dMeth 0 sp_sy_atom (DV 0) (LC (DV 1) LN)) (LC (DV 2) LN)))) SN)
noncomputable def sp_sy_func : Spec := fnSpec 3 [] 0 d_sy_func
noncomputable def d_sy_init : DS := (SQ (sSetAttr 0 (dList LN) (DV 0)) (SQ (sSetAttr 1 dDictS (DV 0)) (SQ (sSetAttr 2 (dList LN) (DV 0)) (SQ (sSetAttr 3 dDictP (DV 0)) (SQ (sFor (dFn sp_fixed_atoms LN) (gName 1) (SQ (sExpr (dMeth 0 sp_sy_atom (DV 0) (LC (DV 1) LN))) SN)) (SQ (sFor (dFn sp_fixed_functors LN) (gName 2) (SQ (sExpr (dMeth 0 sp_sy_func (DV 0) (LC (dItem (DV 2) (DC (.int 0))) (LC (dItem (DV 2) (DC (.int 1))) LN)))) SN)) SN))))))
noncomputable def sp_sy_init : Spec := fnSpec 1 [] 2 d_sy_init
noncomputable def d_sy_name : DS := (SQ (sRet (dItem (dItem (dAttr 2 (DV 0)) (DV 1)) (DC (.int 0)))) SN)
noncomputable def sp_sy_name : Spec := fnSpec 2 [] 0 d_sy_name
noncomputable def d_sy_arity : DS := (SQ (sRet (dItem (dItem (dAttr 2 (DV 0)) (DV 1)) (DC (.int 1)))) SN)
noncomputable def sp_sy_arity : Spec := fnSpec 2 [] 0 d_sy_arity
noncomputable def sp_cPrologError : Spec := spExc
noncomputable def d_system_error : DS := (SQ (sRet (dFn sp_cPrologError (LC (dTup (LC (DC (.str [115])) (LC (DC (.int (16))) (LC (dTup (LC (DV 0) (LC (dTup (LC (DC (.str [97])) (LC (DC (.int (25))) LN))) LN))) LN)))) LN))) SN)
noncomputable def sp_system_error : Spec := fnSpec 1 [] 0 d_system_error
noncomputable def d_formal_of : DS := (SQ (QA 3 (dList LN)) (SQ (sFor (DV 2) (gName 4) (SQ (sExpr (dMethB .list spAppend (DV 3) (LC (dIf (bVal (dIsStr (DV 4))) (dTup (LC (DC (.str [97])) (LC (dMeth 0 sp_sy_atom (DV 0) (LC (DV 4) LN)) LN))) (DV 4)) LN))) SN)) (SQ (sRet (dTup (LC (DC (.str [115])) (LC (dMeth 0 sp_sy_func (DV 0) (LC (DV 1) (LC (dCall spLen (LC (DV 3) LN)) LN))) (LC (dCall spTuple (LC (DV 3) LN)) LN))))) SN)))
noncomputable def sp_formal_of : Spec := fnSpec 3 [] 2 d_formal_of
noncomputable def d_resource_error : DS := (SQ (sRet (dFn sp_system_error (LC (dFn sp_formal_of (LC (DV 0) (LC (DC (.str [114, 101, 115, 111, 117, 114, 99, 101, 95, 101, 114, 114, 111, 114])) (LC (dTup (LC (DV 1) LN)) LN)))) LN))) SN)
noncomputable def sp_resource_error : Spec := fnSpec 2 [] 0 d_resource_error
noncomputable def d_is_small : DS := (SQ (sRet (dAnd (dCmp .LtE (DC (.int 97)) (DV 0)) (dCmp .LtE (DV 0) (DC (.int 122))))) SN)
noncomputable def sp_is_small : Spec := fnSpec 1 [] 0 d_is_small
noncomputable def d_is_capital : DS := (SQ (sRet (dAnd (dCmp .LtE (DC (.int 65)) (DV 0)) (dCmp .LtE (DV 0) (DC (.int 90))))) SN)
noncomputable def sp_is_capital : Spec := fnSpec 1 [] 0 d_is_capital
noncomputable def d_ce_init : DS := (SQ (sSetAttr 5 (DV 1) (DV 0)) (SQ (sSetAttr 6 (DV 2) (DV 0)) (SQ (sSetAttr 7 (dList LN) (DV 0)) (SQ (sSetAttr 8 (dList LN) (DV 0)) (SQ (sSetAttr 9 (dList LN) (DV 0)) (SQ (sSetAttr 10 (DC (.int 0)) (DV 0)) (SQ (sSetAttr 11 (DC (.int 0)) (DV 0)) SN)))))))
noncomputable def sp_ce_init : Spec := fnSpec 3 [] 0 d_ce_init
noncomputable def d_ce_reserve : DS := (SQ (QA 2 (dCall spLen (LC (dAttr 7 (DV 0)) LN))) (SQ (sIf (bVal (dCmp .Gt (dBin .Add (DV 2) (DV 1)) (dAttr 6 (DV 0)))) (SQ sStuck SN) SN) (SQ (sForR (LC (DV 1) LN) (gName 3) (SQ (sExpr (dMethB .list spAppend (dAttr 7 (DV 0)) (LC (dTup (LC (DC (.int (0))) (LC (dBin .Add (DV 2) (DV 3)) LN))) LN))) SN)) (SQ (sRet (DV 2)) SN))))
noncomputable def sp_ce_reserve : Spec := fnSpec 2 [] 2 d_ce_reserve
noncomputable def d_ce_deref : DS := (SQ (sWhile (bVal (DC (.bool true))) (SQ (QA 2 (dItem (DV 1) (DC (.int 0)))) (SQ (sIf (bVal (dCmp .Eq (DV 2) (DC (.int (0))))) (SQ (QA 3 (dItem (dAttr 7 (DV 0)) (dItem (DV 1) (DC (.int 1))))) SN) (SQ (sIf (bVal (dCmp .Eq (DV 2) (DC (.int (1))))) (SQ (QA 3 (dItem (dAttr 8 (DV 0)) (dItem (DV 1) (DC (.int 1))))) SN) (SQ (sRet (DV 1)) SN)) SN)) (SQ (sIf (bVal (dCmp .Eq (DV 3) (DV 1))) (SQ (sRet (DV 1)) SN) SN) (SQ (QA 1 (DV 3)) SN)))) fuel) SN)
noncomputable def sp_ce_deref : Spec := fnSpec 2 [] 2 d_ce_deref
noncomputable def d_ce_globalise : DS := (SQ (QA 1 (dMeth 2 sp_ce_deref (DV 0) (LC (DV 1) LN))) (SQ (sIf (bVal (dCmp .Eq (dItem (DV 1) (DC (.int 0))) (DC (.int (1))))) sStuck SN) (SQ (sRet (DV 1)) SN)))
noncomputable def sp_ce_globalise : Spec := fnSpec 2 [] 1 d_ce_globalise
noncomputable def d_ce_is_compound : DS := (SQ (sRet (dOr (dCmp .Eq (dItem (DV 1) (DC (.int 0))) (DC (.int (2)))) (dCmp .Eq (dItem (DV 1) (DC (.int 0))) (DC (.int (3)))))) SN)
noncomputable def sp_ce_is_compound : Spec := fnSpec 2 [] 0 d_ce_is_compound
noncomputable def d_ce_functor_of : DS := (SQ (QA 2 (dItem (DV 1) (DC (.int 0)))) (SQ (sIf (bVal (dCmp .Eq (DV 2) (DC (.int (2))))) (SQ (sRet (dItem (dItem (dAttr 7 (DV 0)) (dItem (DV 1) (DC (.int 1)))) (DC (.int 1)))) SN) SN) (SQ (sIf (bVal (dCmp .Eq (DV 2) (DC (.int (3))))) (SQ (sRet (DC (.int (0)))) SN) SN) (SQ (sIf (bVal (dCmp .Eq (DV 2) (DC (.int (4))))) (SQ (sRet (dMeth 0 sp_sy_functor (dAttr 5 (DV 0)) (LC (dItem (DV 1) (DC (.int 1))) (LC (DC (.int 0)) LN)))) SN) SN) (SQ (sRet (dNeg (DC (.int 1)))) SN)))))
noncomputable def sp_ce_functor_of : Spec := fnSpec 2 [] 1 d_ce_functor_of
noncomputable def d_ce_width : DS := (SQ (QA 2 (dItem (DV 1) (DC (.int 0)))) (SQ (sIf (bVal (dCmp .Eq (DV 2) (DC (.int (3))))) (SQ (sRet (DC (.int 2))) SN) SN) (SQ (sIf (bVal (dCmp .Eq (DV 2) (DC (.int (2))))) (SQ (sRet (dMeth 0 sp_sy_arity (dAttr 5 (DV 0)) (LC (dItem (dItem (dAttr 7 (DV 0)) (dItem (DV 1) (DC (.int 1)))) (DC (.int 1))) LN))) SN) SN) (SQ (sRet (DC (.int 0))) SN))))
noncomputable def sp_ce_width : Spec := fnSpec 2 [] 1 d_ce_width
noncomputable def d_ce_base : DS := (SQ (sIf (bVal (dCmp .Eq (dItem (DV 1) (DC (.int 0))) (DC (.int (3))))) (SQ (sRet (dItem (DV 1) (DC (.int 1)))) SN) SN) (SQ (sRet (dBin .Add (dItem (DV 1) (DC (.int 1))) (DC (.int 1)))) SN))
noncomputable def sp_ce_base : Spec := fnSpec 2 [] 0 d_ce_base
noncomputable def d_ce_new_block : DS := (SQ (sIf (bVal (dCmp .Eq (DV 1) (DC (.int (0))))) (SQ (sRet (dTup (LC (DC (.int (3))) (LC (dMeth 2 sp_ce_reserve (DV 0) (LC (DC (.int 2)) LN)) LN)))) SN) SN) (SQ (QA 2 (dMeth 2 sp_ce_reserve (DV 0) (LC (dBin .Add (DC (.int 1)) (dMeth 0 sp_sy_arity (dAttr 5 (DV 0)) (LC (DV 1) LN))) LN))) (SQ (sSetItem (dTup (LC (DC (.int (6))) (LC (DV 1) LN))) (dAttr 7 (DV 0)) (DV 2)) (SQ (sRet (dTup (LC (DC (.int (2))) (LC (DV 2) LN)))) SN))))
noncomputable def sp_ce_new_block : Spec := fnSpec 2 [] 1 d_ce_new_block
noncomputable def d_st_new_struct : DS := (SQ (sIf (bVal (dCmp .Eq (dCall spLen (LC (DV 2) LN)) (DC (.int 0)))) (SQ (sRet (dTup (LC (DC (.int (4))) (LC (dMeth 0 sp_sy_name (dAttr 5 (DV 0)) (LC (DV 1) LN)) LN)))) SN) SN) (SQ (QA 3 (dList LN)) (SQ (sFor (DV 2) (gName 4) (SQ (sExpr (dMethB .list spAppend (DV 3) (LC (dMeth 2 sp_ce_globalise (DV 0) (LC (DV 4) LN)) LN))) SN)) (SQ (QA 5 (dMeth 2 sp_ce_new_block (DV 0) (LC (DV 1) LN))) (SQ (QA 6 (dMeth 2 sp_ce_base (DV 0) (LC (DV 5) LN))) (SQ (sFor (DV 3) (gName 7) (SQ (sSetItem (DV 7) (dAttr 7 (DV 0)) (DV 6)) (SQ (sAug 6 (DC (.int 1))) SN))) (SQ (sRet (DV 5)) SN)))))))
noncomputable def sp_st_new_struct : Spec := fnSpec 3 [] 5 d_st_new_struct
noncomputable def d_st_build_list : DS := (SQ (sIf (bVal (dCmp .Is (DV 2) (DC .none))) (SQ (QA 3 (dTup (LC (DC (.int (4))) (LC (DC (.int (0))) LN)))) SN) (SQ (QA 3 (dMeth 2 sp_ce_globalise (DV 0) (LC (DV 2) LN))) SN)) (SQ (QA 4 (dList LN)) (SQ (sFor (DV 1) (gName 5) (SQ (sExpr (dMethB .list spAppend (DV 4) (LC (dMeth 2 sp_ce_globalise (DV 0) (LC (DV 5) LN)) LN))) SN)) (SQ (sIf (bVal (dCmp .Eq (dCall spLen (LC (DV 4) LN)) (DC (.int 0)))) (SQ (sRet (DV 3)) SN) SN) (SQ (QA 6 (dMeth 2 sp_ce_reserve (DV 0) (LC (dBin .Mult (DC (.int 2)) (dCall spLen (LC (DV 4) LN))) LN))) (SQ (QA 7 (DV 6)) (SQ (sFor (DV 4) (gName 8) (SQ (sSetItem (DV 8) (dAttr 7 (DV 0)) (DV 7)) (SQ (sSetItem (dTup (LC (DC (.int (3))) (LC (dBin .Add (DV 7) (DC (.int 2))) LN))) (dAttr 7 (DV 0)) (dBin .Add (DV 7) (DC (.int 1)))) (SQ (sAug 7 (DC (.int 2))) SN)))) (SQ (sSetItem (DV 3) (dAttr 7 (DV 0)) (dBin .Sub (DV 7) (DC (.int 1)))) (SQ (sRet (dTup (LC (DC (.int (3))) (LC (DV 6) LN)))) SN)))))))))
noncomputable def sp_st_build_list : Spec := fnSpec 2 [AV.none] 6 d_st_build_list
noncomputable def d_st_whole_size : DS := (SQ (QA 3 (DC (.int 1))) (SQ (QA 4 (dMeth 2 sp_ce_base (DV 0) (LC (DV 1) LN))) (SQ (sForR (LC (dMeth 2 sp_ce_width (DV 0) (LC (DV 1) LN)) LN) (gName 5) (SQ (QA 6 (dMeth 2 sp_ce_deref (DV 0) (LC (dItem (dAttr 7 (DV 0)) (dBin .Add (DV 4) (DV 5))) LN))) (SQ (sIf (bVal (dMeth 2 sp_ce_is_compound (DV 0) (LC (DV 6) LN))) (SQ (sAug 3 (dItem (DV 2) (dItem (DV 6) (DC (.int 1))))) SN) (SQ (sAug 3 (DC (.int 1))) SN)) SN))) (SQ (sRet (DV 3)) SN))))
noncomputable def sp_st_whole_size : Spec := fnSpec 3 [] 4 d_st_whole_size
noncomputable def d_st_take_term : DS := (SQ (QA 3 dDictI) (SQ (QA 4 dDictI) (SQ (QA 5 (dList LN)) (SQ (QA 6 (dList (LC (dTup (LC (DC (.int (0))) (LC (dMeth 2 sp_ce_globalise (DV 0) (LC (DV 1) LN)) LN))) LN))) (SQ (sWhile (bVal (dCmp .Gt (dCall spLen (LC (DV 6) LN)) (DC (.int 0)))) (SQ (sTup (dMethB .list spPop (DV 6) LN) (gTup2 (gName 7) (gName 1))) (SQ (sIf (bVal (dCmp .Eq (DV 7) (DC (.int (1))))) (SQ (QA 8 (dMeth 2 sp_ce_functor_of (DV 0) (LC (DV 1) LN))) (SQ (QA 9 (dBin .Sub (dCall spLen (LC (DV 5) LN)) (dMeth 2 sp_ce_width (DV 0) (LC (DV 1) LN)))) (SQ (QA 10 (dTup (LC (DC (.str [115])) (LC (DV 8) (LC (dCall spTuple (LC (dSlice (DV 5) (DV 9) (DC .none) (DC .none)) LN)) LN))))) (SQ (sDelFrom (DV 5) (DV 9)) (SQ (sSetItem (DV 10) (DV 3) (dItem (DV 1) (DC (.int 1)))) (SQ (sSetItem (dMeth 2 sp_st_whole_size (DV 0) (LC (DV 1) (LC (DV 4) LN))) (DV 4) (dItem (DV 1) (DC (.int 1)))) (SQ (sIf (bVal (dCmp .Gt (dItem (DV 4) (dItem (DV 1) (DC (.int 1)))) (dBin .Add (dAttr 6 (DV 0)) (DC (.int 1))))) (SQ sStuck SN) SN) (SQ (sExpr (dMethB .list spAppend (DV 5) (LC (DV 10) LN))) (SQ sCont SN))))))))) SN) (SQ (QA 1 (dMeth 2 sp_ce_deref (DV 0) (LC (DV 1) LN))) (SQ (QA 11 (dItem (DV 1) (DC (.int 0)))) (SQ (sIf (bVal (dCmp .Eq (DV 11) (DC (.int (0))))) (SQ (sIf (bVal (dCmp .NotIn (dItem (DV 1) (DC (.int 1))) (DV 2))) sStuck SN) (SQ (sExpr (dMethB .list spAppend (DV 5) (LC (dTup (LC (DC (.str [118])) (LC (dItem (DV 2) (dItem (DV 1) (DC (.int 1)))) LN))) LN))) SN)) (SQ (sIf (bVal (dCmp .Eq (DV 11) (DC (.int (4))))) (SQ (sExpr (dMethB .list spAppend (DV 5) (LC (dTup (LC (DC (.str [97])) (LC (dItem (DV 1) (DC (.int 1))) LN))) LN))) SN) (SQ (sIf (bVal (dCmp .Eq (DV 11) (DC (.int (5))))) (SQ (sExpr (dMethB .list spAppend (DV 5) (LC (dTup (LC (DC (.str [105])) (LC (dItem (DV 1) (DC (.int 1))) LN))) LN))) SN) (SQ (sIf (bVal (dCmp .In (dItem (DV 1) (DC (.int 1))) (DV 3))) (SQ (QA 10 (dItem (DV 3) (dItem (DV 1) (DC (.int 1))))) (SQ (sIf (bVal (dCmp .Is (DV 10) (DC .none))) (SQ sStuck SN) SN) (SQ (sExpr (dMethB .list spAppend (DV 5) (LC (DV 10) LN))) SN))) (SQ (sSetItem (DC .none) (DV 3) (dItem (DV 1) (DC (.int 1)))) (SQ (sExpr (dMethB .list spAppend (DV 6) (LC (dTup (LC (DC (.int (1))) (LC (DV 1) LN))) LN))) (SQ (QA 12 (dMeth 2 sp_ce_base (DV 0) (LC (DV 1) LN))) (SQ (sForR (LC (dBin .Sub (dMeth 2 sp_ce_width (DV 0) (LC (DV 1) LN)) (DC (.int 1))) (LC (dNeg (DC (.int 1))) (LC (dNeg (DC (.int 1))) LN))) (gName 13) (SQ (sExpr (dMethB .list spAppend (DV 6) (LC (dTup (LC (DC (.int (0))) (LC (dItem (dAttr 7 (DV 0)) (dBin .Add (DV 12) (DV 13))) LN))) LN))) SN)) SN))))) SN)) SN)) SN)) SN))))) fuel) (SQ (sRet (dItem (DV 5) (DC (.int 0)))) SN))))))
noncomputable def sp_st_take_term : Spec := fnSpec 3 [] 11 d_st_take_term
noncomputable def d_atom_cell : DS := (SQ (sIf (bVal (dCmp .Gt (dCall spLen (LC (DV 1) LN)) (dAttr 6 (dAttr 15 (DV 0))))) (SQ sStuck SN) SN) (SQ (sRet (dTup (LC (DC (.int (4))) (LC (dMeth 0 sp_sy_atom (dAttr 5 (DV 0)) (LC (DV 1) LN)) LN)))) SN))
noncomputable def sp_atom_cell : Spec := fnSpec 2 [] 0 d_atom_cell
noncomputable def d_upper_text : DS := (SQ (QA 1 (dList LN)) (SQ (sFor (DV 0) (gName 2) (SQ (QA 3 (dCall spOrd (LC (DV 2) LN))) (SQ (sIf (bVal (dFn sp_is_small (LC (DV 3) LN))) (SQ (sExpr (dMethB .list spAppend (DV 1) (LC (dCall spChr (LC (dBin .Sub (DV 3) (DC (.int 32))) LN)) LN))) SN) (SQ (sExpr (dMethB .list spAppend (DV 1) (LC (DV 2) LN))) SN)) SN))) (SQ (sRet (dMethB .str spJoin (DC (.str [])) (LC (DV 1) LN))) SN)))
noncomputable def sp_upper_text : Spec := fnSpec 1 [] 3 d_upper_text
noncomputable def d_lower_text : DS := (SQ (QA 1 (dList LN)) (SQ (sFor (DV 0) (gName 2) (SQ (QA 3 (dCall spOrd (LC (DV 2) LN))) (SQ (sIf (bVal (dFn sp_is_capital (LC (DV 3) LN))) (SQ (sExpr (dMethB .list spAppend (DV 1) (LC (dCall spChr (LC (dBin .Add (DV 3) (DC (.int 32))) LN)) LN))) SN) (SQ (sExpr (dMethB .list spAppend (DV 1) (LC (DV 2) LN))) SN)) SN))) (SQ (sRet (dMethB .str spJoin (DC (.str [])) (LC (DV 1) LN))) SN)))
noncomputable def sp_lower_text : Spec := fnSpec 1 [] 3 d_lower_text
noncomputable def d_spans : DS := (SQ (QA 4 (DC (.int 0))) (SQ (QA 5 (DV 0)) (SQ (sIf (bVal (dCmp .NotEq (DV 1) (DC (.int (-1))))) (SQ (QA 4 (DV 1)) (SQ (QA 5 (dCall spMin (LC (DV 1) (LC (DV 0) LN)))) SN)) SN) (SQ (QA 6 (dList LN)) (SQ (sForR (LC (DV 4) (LC (dBin .Add (DV 5) (DC (.int 1))) LN)) (gName 7) (SQ (QA 8 (dBin .Sub (DV 0) (DV 7))) (SQ (QA 9 (DC (.int 0))) (SQ (QA 10 (DV 8)) (SQ (sIf (bVal (dCmp .NotEq (DV 2) (DC (.int (-1))))) (SQ (QA 9 (DV 2)) (SQ (QA 10 (dCall spMin (LC (DV 2) (LC (DV 8) LN)))) SN)) (SQ (sIf (bVal (dCmp .NotEq (DV 3) (DC (.int (-1))))) (SQ (QA 9 (dCall spMax (LC (dBin .Sub (DV 8) (DV 3)) (LC (DC (.int 0)) LN)))) (SQ (QA 10 (dBin .Sub (DV 8) (DV 3))) SN)) SN) SN)) (SQ (sForR (LC (DV 9) (LC (dBin .Add (DV 10) (DC (.int 1))) LN)) (gName 11) (SQ (sIf (bOr (bVal (dCmp .Eq (DV 3) (DC (.int (-1))))) (bOr (bVal (dCmp .Eq (dBin .Sub (DV 8) (DV 11)) (DV 3))) (fun _ σ => Res.ok false σ))) (SQ (sExpr (dMethB .list spAppend (DV 6) (LC (dTup (LC (DV 7) (LC (DV 11) LN))) LN))) SN) SN) SN)) SN)))))) (SQ (sRet (DV 6)) SN))))))
noncomputable def sp_spans : Spec := fnSpec 4 [] 8 d_spans
noncomputable def d_sub_atom_rows : DS := (SQ (sIf (bVal (dCmp .IsNot (DV 5) (DC .none))) (SQ (sIf (bAnd (bVal (dCmp .NotEq (DV 3) (DC (.int (-1))))) (bAnd (bVal (dCmp .NotEq (DV 3) (dCall spLen (LC (DV 5) LN)))) (fun _ σ => Res.ok true σ))) (SQ (sRet (dTup (LC (DC (.int (4))) (LC (DC (.int (0))) LN)))) SN) SN) (SQ (QA 3 (dCall spLen (LC (DV 5) LN))) SN)) SN) (SQ (QA 6 (dCall spLen (LC (DV 1) LN))) (SQ (sIf (bAnd (bVal (dCmp .Eq (DV 2) (DC (.int (-1))))) (bAnd (bVal (dCmp .Eq (DV 3) (DC (.int (-1))))) (bAnd (bVal (dCmp .Eq (DV 4) (DC (.int (-1))))) (fun _ σ => Res.ok true σ)))) (SQ (QA 7 (dBin .FloorDiv (dBin .Mult (dBin .Add (DV 6) (DC (.int 1))) (dBin .Add (DV 6) (DC (.int 2)))) (DC (.int 2)))) (SQ (sIf (bVal (dCmp .Gt (dBin .Mult (DV 7) (DC (.int (7)))) (dAttr 6 (dAttr 15 (DV 0))))) (SQ (sRaise (dFn sp_resource_error (LC (dAttr 5 (DV 0)) (LC (DC (.str [109, 101, 109, 111, 114, 121])) LN)))) SN) SN) SN)) SN) (SQ (QA 8 (dMeth 0 sp_sy_func (dAttr 5 (DV 0)) (LC (DC (.str [36, 115])) (LC (DC (.int 4)) LN)))) (SQ (QA 9 (dList LN)) (SQ (QA 10 (dFn sp_spans (LC (DV 6) (LC (DV 2) (LC (DV 3) (LC (DV 4) LN)))))) (SQ (sIf (bAnd (bVal (dCmp .Is (DV 5) (DC .none))) (bAnd (bVal (dCmp .Gt (dBin .Mult (dCall spLen (LC (DV 10) LN)) (DC (.int (7)))) (dAttr 6 (dAttr 15 (DV 0))))) (fun _ σ => Res.ok true σ))) (SQ sStuck SN) SN) (SQ (sForT (DV 10) (gTup2 (gName 11) (gName 12)) (SQ (QA 13 (dSlice (DV 1) (DV 11) (dBin .Add (DV 11) (DV 12)) (DC .none))) (SQ (sIf (bOr (bVal (dCmp .Is (DV 5) (DC .none))) (bOr (bVal (dCmp .Eq (DV 13) (DV 5))) (fun _ σ => Res.ok false σ))) (SQ (QA 14 (dTup (LC (DC (.int (5))) (LC (dBin .Sub (dBin .Sub (DV 6) (DV 11)) (DV 12)) LN)))) (SQ (QA 15 (dList (LC (dTup (LC (DC (.int (5))) (LC (DV 11) LN))) (LC (dTup (LC (DC (.int (5))) (LC (DV 12) LN))) (LC (DV 14) (LC (dFn sp_atom_cell (LC (DV 0) (LC (DV 13) LN))) LN)))))) (SQ (sExpr (dMethB .list spAppend (DV 9) (LC (dMeth 2 sp_st_new_struct (dAttr 15 (DV 0)) (LC (DV 8) (LC (DV 15) LN))) LN))) SN))) SN) SN))) (SQ (sRet (dMeth 2 sp_st_build_list (dAttr 15 (DV 0)) (LC (DV 9) LN))) SN)))))))))
noncomputable def sp_sub_atom_rows : Spec := fnSpec 6 [] 10 d_sub_atom_rows
noncomputable def d_splits : DS := (SQ (QA 3 (dList LN)) (SQ (sForR (LC (dBin .Add (dCall spLen (LC (DV 0) LN)) (DC (.int 1))) LN) (gName 4) (SQ (QA 5 (dSlice (DV 0) (DC .none) (DV 4) (DC .none))) (SQ (QA 6 (dSlice (DV 0) (DV 4) (DC .none) (DC .none))) (SQ (QA 7 (dOr (dCmp .Is (DV 1) (DC .none)) (dCmp .Eq (DV 5) (DV 1)))) (SQ (sIf (bAnd (bVal (DV 7)) (bAnd (bOr (bVal (dCmp .Is (DV 2) (DC .none))) (bOr (bVal (dCmp .Eq (DV 6) (DV 2))) (fun _ σ => Res.ok false σ))) (fun _ σ => Res.ok true σ))) (SQ (sExpr (dMethB .list spAppend (DV 3) (LC (dTup (LC (DV 5) (LC (DV 6) LN))) LN))) SN) SN) SN))))) (SQ (sRet (DV 3)) SN)))
noncomputable def sp_splits : Spec := fnSpec 3 [] 5 d_splits
noncomputable def sp_cStore : Spec := mkSpec 2 sp_ce_init
noncomputable def d_ar_reset : DS := (SQ (sSetAttr 15 (dFn sp_cStore (LC (dAttr 5 (DV 0)) (LC (dAttr 6 (DV 0)) LN))) (DV 0)) (SQ (sSetAttr 16 (dList (LC (DC (.tup [.int 5, .int 0])) LN)) (DV 0)) (SQ (sSetAttr 17 (DC (.int 0)) (DV 0)) (SQ (sSetAttr 18 (DC (.int 0)) (DV 0)) (SQ (sSetAttr 19 (dNeg (DC (.int 1))) (DV 0)) (SQ (sSetAttr 20 (dNeg (DC (.int 1))) (DV 0)) (SQ (sSetAttr 21 (dNeg (DC (.int 1))) (DV 0)) (SQ (sSetAttr 22 (DC (.str [114, 101, 97, 100])) (DV 0)) (SQ (sSetAttr 23 (DC (.int 0)) (DV 0)) (SQ (sSetAttr 24 (DC (.tup [.int 5, .int 0])) (DV 0)) (SQ (sSetAttr 25 (dList LN) (DV 0)) (SQ (sSetAttr 26 dDictI (DV 0)) (SQ (sSetAttr 27 (DC (.bool false)) (DV 0)) SN)))))))))))))
noncomputable def sp_ar_reset : Spec := fnSpec 1 [] 0 d_ar_reset
noncomputable def d_ar_init : DS := (SQ (sSetAttr 5 (DV 1) (DV 0)) (SQ (sSetAttr 12 (DV 2) (DV 0)) (SQ (sSetAttr 6 (DV 3) (DV 0)) (SQ (sSetAttr 13 (DV 4) (DV 0)) (SQ (sSetAttr 14 (DV 5) (DV 0)) (SQ (sExpr (dMeth 3 sp_ar_reset (DV 0) LN)) SN))))))
noncomputable def sp_ar_init : Spec := fnSpec 4 [AV.bool true, AV.int 4096] 0 d_ar_init
noncomputable def d_ar_take : DS := (SQ (sRet (dMeth 2 sp_st_take_term (dAttr 15 (DV 0)) (LC (DV 1) (LC dDictI LN)))) SN)
noncomputable def sp_ar_take : Spec := fnSpec 2 [] 0 d_ar_take
noncomputable def d_law_pinch : DS := (SQ (sAugItem' (DV 0) (DC (.int 1)) (DC (.int 1))) (SQ (sIf (bVal (dCmp .Gt (dItem (DV 0) (DC (.int 1))) (dCall spLen (LC (dItem (DV 0) (DC (.int 0))) LN)))) (SQ (sRet (DC (.int 0))) SN) SN) (SQ (sRet (dBin .Mod (dCall spAbs (LC (dItem (dItem (DV 0) (DC (.int 0))) (dBin .Sub (dItem (DV 0) (DC (.int 1))) (DC (.int 1)))) LN)) (DV 1))) SN)))
noncomputable def sp_law_pinch : Spec := fnSpec 2 [] 0 d_law_pinch
noncomputable def d_law_text : DS := (SQ (QA 2 (DC (.str []))) (SQ (sForR (LC (dFn sp_law_pinch (LC (DV 0) (LC (DV 1) LN))) LN) (gName 3) (SQ (QA 2 (dBin .Add (DV 2) (dItem (DC (.str [97, 98, 90, 97, 65, 49, 95, 233])) (dFn sp_law_pinch (LC (DV 0) (LC (DC (.int 8)) LN)))))) SN)) (SQ (sRet (DV 2)) SN)))
noncomputable def sp_law_text : Spec := fnSpec 2 [] 2 d_law_text
noncomputable def d_law_any : DS := (SQ (QA 1 (dFn sp_law_pinch (LC (DV 0) (LC (DC (.int 9)) LN)))) (SQ (sRet (dIf (bVal (dCmp .Lt (DV 1) (DC (.int 4)))) (DC (.int (-1))) (dBin .Sub (DV 1) (DC (.int 4))))) SN))
noncomputable def sp_law_any : Spec := fnSpec 1 [] 1 d_law_any
noncomputable def d_law_parts : DS := (SQ (QA 4 (dList LN)) (SQ (sForR (LC (dBin .Add (DV 0) (DC (.int 1))) LN) (gName 5) (SQ (sForR (LC (DV 5) (LC (dBin .Add (DV 0) (DC (.int 1))) LN)) (gName 6) (SQ (QA 7 (dOr (dCmp .Eq (DV 1) (DC (.int (-1)))) (dCmp .Eq (DV 1) (DV 5)))) (SQ (QA 7 (dAnd (DV 7) (dOr (dCmp .Eq (DV 2) (DC (.int (-1)))) (dCmp .Eq (DV 2) (dBin .Sub (DV 6) (DV 5)))))) (SQ (sIf (bAnd (bVal (DV 7)) (bAnd (bOr (bVal (dCmp .Eq (DV 3) (DC (.int (-1))))) (bOr (bVal (dCmp .Eq (DV 3) (dBin .Sub (DV 0) (DV 6)))) (fun _ σ => Res.ok false σ))) (fun _ σ => Res.ok true σ))) (SQ (sExpr (dMethB .list spAppend (DV 4) (LC (dTup (LC (DV 5) (LC (dBin .Sub (DV 6) (DV 5)) LN))) LN))) SN) SN) SN)))) SN)) (SQ (sRet (DV 4)) SN)))
noncomputable def sp_law_parts : Spec := fnSpec 4 [] 4 d_law_parts
noncomputable def d_law_listed : DS := (SQ (QA 4 (dTup (LC (DC (.str [97])) (LC (DC (.int (0))) LN)))) (SQ (sForT (dSlice (DV 2) (DC .none) (DC .none) (dNeg (DC (.int 1)))) (gTup2 (gName 5) (gName 6)) (SQ (QA 7 (dSlice (DV 1) (DV 5) (dBin .Add (DV 5) (DV 6)) (DC .none))) (SQ (sIf (bOr (bVal (dCmp .Is (DV 3) (DC .none))) (bOr (bVal (dCmp .Eq (DV 7) (DV 3))) (fun _ σ => Res.ok false σ))) (SQ (QA 8 (dTup (LC (dTup (LC (DC (.str [105])) (LC (DV 5) LN))) (LC (dTup (LC (DC (.str [105])) (LC (DV 6) LN))) (LC (dTup (LC (DC (.str [105])) (LC (dBin .Sub (dBin .Sub (dCall spLen (LC (DV 1) LN)) (DV 5)) (DV 6)) LN))) (LC (dTup (LC (DC (.str [97])) (LC (dMeth 0 sp_sy_atom (DV 0) (LC (DV 7) LN)) LN))) LN)))))) (SQ (QA 4 (dTup (LC (DC (.str [115])) (LC (DC (.int (0))) (LC (dTup (LC (dTup (LC (DC (.str [115])) (LC (dMeth 0 sp_sy_func (DV 0) (LC (DC (.str [36, 115])) (LC (DC (.int 4)) LN))) (LC (DV 8) LN)))) (LC (DV 4) LN))) LN))))) SN)) SN) SN))) (SQ (sRet (DV 4)) SN)))
noncomputable def sp_law_listed : Spec := fnSpec 4 [] 5 d_law_listed
noncomputable def sp_cAreas : Spec := mkSpec 3 sp_ar_init
noncomputable def d_law_rows_right : DS := (SQ (QA 5 (dFn sp_cAreas (LC (DV 0) (LC (dList LN) (LC (DV 4) LN))))) (SQ (QA 6 (dBin .FloorDiv (dBin .Mult (dBin .Add (dCall spLen (LC (DV 1) LN)) (DC (.int 1))) (dBin .Add (dCall spLen (LC (DV 1) LN)) (DC (.int 2)))) (DC (.int 2)))) (SQ (QA 7 (dAnd (dCmp .Eq (DV 2) (dList (LC (DC (.int (-1))) (LC (DC (.int (-1))) (LC (DC (.int (-1))) LN))))) (dAnd (dCmp .Is (DV 3) (DC .none)) (dCmp .Gt (dBin .Mult (DV 6) (DC (.int (7)))) (DV 4))))) (SQ (sTryOk (SQ (QA 8 (dMeth 3 sp_ar_take (DV 5) (LC (dFn sp_sub_atom_rows (LC (DV 5) (LC (DV 1) (LC (dItem (DV 2) (DC (.int 0))) (LC (dItem (DV 2) (DC (.int 1))) (LC (dItem (DV 2) (DC (.int 2))) (LC (DV 3) LN))))))) LN))) SN)) (SQ (QA 11 (dFn sp_law_parts (LC (dCall spLen (LC (DV 1) LN)) (LC (dItem (DV 2) (DC (.int 0))) (LC (dItem (DV 2) (DC (.int 1))) (LC (dItem (DV 2) (DC (.int 2))) LN)))))) (SQ (sRet (dAnd (dNot (DV 7)) (dCmp .Eq (DV 8) (dFn sp_law_listed (LC (DV 0) (LC (DV 1) (LC (DV 11) (LC (DV 3) LN)))))))) SN))))))
noncomputable def sp_law_rows_right : Spec := fnSpec 5 [] 7 d_law_rows_right
noncomputable def d_rr0 : DS := (QA 5 (dFn sp_cAreas (LC (DV 0) (LC (dList LN) (LC (DV 4) LN)))))
noncomputable def d_rr1 : DS := (QA 6 (dBin .FloorDiv (dBin .Mult (dBin .Add (dCall spLen (LC (DV 1) LN)) (DC (.int 1))) (dBin .Add (dCall spLen (LC (DV 1) LN)) (DC (.int 2)))) (DC (.int 2))))
noncomputable def d_rr2 : DS := (QA 7 (dAnd (dCmp .Eq (DV 2) (dList (LC (DC (.int (-1))) (LC (DC (.int (-1))) (LC (DC (.int (-1))) LN))))) (dAnd (dCmp .Is (DV 3) (DC .none)) (dCmp .Gt (dBin .Mult (DV 6) (DC (.int (7)))) (DV 4)))))
noncomputable def l_rr : DL := (LC (DV 5) (LC (DV 1) (LC (dItem (DV 2) (DC (.int 0))) (LC (dItem (DV 2) (DC (.int 1))) (LC (dItem (DV 2) (DC (.int 2))) (LC (DV 3) LN))))))
noncomputable def d_hand : DS := (SQ (QA 10 (dItem (dItem (dBall (DV 9)) (DC (.int 2))) (DC (.int 0)))) (SQ (sRet (dAnd (DV 7) (dCmp .Eq (DV 10) (dTup (LC (DC (.str [115])) (LC (dMeth 0 sp_sy_func (DV 0) (LC (DC (.str [114, 101, 115, 111, 117, 114, 99, 101, 95, 101, 114, 114, 111, 114])) (LC (DC (.int 1)) LN))) (LC (dTup (LC (dTup (LC (DC (.str [97])) (LC (dMeth 0 sp_sy_atom (DV 0) (LC (DC (.str [109, 101, 109, 111, 114, 121])) LN)) LN))) LN)) LN))))))) SN))
noncomputable def d_law_cases_right : DS := (SQ (QA 1 (dFn sp_upper_text (LC (DV 0) LN))) (SQ (QA 2 (dFn sp_lower_text (LC (DV 0) LN))) (SQ (sIf (bOr (bVal (dCmp .NotEq (dCall spLen (LC (DV 1) LN)) (dCall spLen (LC (DV 0) LN)))) (bOr (bVal (dCmp .NotEq (dCall spLen (LC (DV 2) LN)) (dCall spLen (LC (DV 0) LN)))) (fun _ σ => Res.ok false σ))) (SQ (sRet (DC (.bool false))) SN) SN) (SQ (QA 3 (DC (.str [97, 98, 99, 100, 101, 102, 103, 104, 105, 106, 107, 108, 109, 110, 111, 112, 113, 114, 115, 116, 117, 118, 119, 120, 121, 122]))) (SQ (QA 4 (DC (.str [65, 66, 67, 68, 69, 70, 71, 72, 73, 74, 75, 76, 77, 78, 79, 80, 81, 82, 83, 84, 85, 86, 87, 88, 89, 90]))) (SQ (sForR (LC (dCall spLen (LC (DV 0) LN)) LN) (gName 5) (SQ (QA 6 (dItem (DV 0) (DV 5))) (SQ (sIf (bVal (dCmp .NotEq (dItem (DV 1) (DV 5)) (dIf (bVal (dCmp .In (DV 6) (DV 3))) (dItem (DV 4) (dMethB .str spIndex (DV 3) (LC (DV 6) LN))) (DV 6)))) (SQ (sRet (DC (.bool false))) SN) SN) (SQ (sIf (bVal (dCmp .NotEq (dItem (DV 2) (DV 5)) (dIf (bVal (dCmp .In (DV 6) (DV 4))) (dItem (DV 3) (dMethB .str spIndex (DV 4) (LC (DV 6) LN))) (DV 6)))) (SQ (sRet (DC (.bool false))) SN) SN) SN)))) (SQ (sRet (dAnd (dCmp .Eq (dFn sp_lower_text (LC (DV 1) LN)) (DV 2)) (dCmp .Eq (dFn sp_upper_text (LC (DV 2) LN)) (DV 1)))) SN)))))))
noncomputable def sp_law_cases_right : Spec := fnSpec 1 [] 6 d_law_cases_right
noncomputable def sp_cSymbols : Spec := mkSpec 0 sp_sy_init
end Mine
end
section
open PySem PySem.W PySem.Calls PyProof.Rows
namespace Mine
noncomputable def at_ {α : Type} (F : α → Prop) (l : List α) (i : Nat) : Prop := (l.map F).getD i True
noncomputable def conL : List (Str × Int) := [("A_NIL", 0), ("A_SYSTEM", 25), ("F_DOT", 0), ("F_ERROR", 16), ("REF", 0), ("SRF", 1), ("STR", 2), ("LIS", 3), ("CON", 4), ("INT", 5), ("FUN", 6), ("VISIT", 0), ("BUILD", 1), ("ANY", -1), ("ROW_CELLS", 7)]
noncomputable def nonL : List Str := ["len", "abs", "min", "max", "ord", "chr", "tuple", "isinstance", "str", "range"]
noncomputable def gL : List (Str × Nat) := [("fixed_atoms", 1), ("fixed_functors", 2), ("system_error", 9), ("formal_of", 10), ("resource_error", 11), ("is_small", 12), ("is_capital", 13), ("atom_cell", 27), ("upper_text", 28), ("lower_text", 29), ("spans", 30), ("sub_atom_rows", 31), ("splits", 32), ("_law_pinch", 36), ("_law_text", 37), ("_law_any", 38), ("_law_parts", 39), ("_law_listed", 40), ("_law_rows_right", 41), ("_law_cases_right", 42)]
noncomputable def cL : List (Str × Nat) := [("Symbols", 0), ("PrologError", 1), ("Store", 2), ("Areas", 3)]
noncomputable def mL : List (Nat × Str × Nat) := [(0, "__init__", 3), (2, "__init__", 14), (3, "__init__", 33), (0, "atom", 4), (0, "functor", 5), (0, "func", 6), (0, "name", 7), (0, "arity", 8), (2, "reserve", 15), (2, "deref", 16), (2, "globalise", 17), (2, "is_compound", 18), (2, "functor_of", 19), (2, "width", 20), (2, "base", 21), (2, "new_block", 22), (2, "new_struct", 23), (2, "build_list", 24), (2, "whole_size", 25), (2, "take_term", 26), (3, "reset", 34), (3, "take", 35), (1, "__init__", 0)]
noncomputable def fnP (C : Ctx) (f : Nat → Addr) : List Prop := [FnAt C (f 0) (fnB (stIn 3 0)) (fnSc (stIn 3 0)) (["self", "ball"] : List Str) 2 [], FnAt C (f 1) (fnB (stTop 8)) (fnSc (stTop 8)) ([] : List Str) 0 [], FnAt C (f 2) (fnB (stTop 9)) (fnSc (stTop 9)) ([] : List Str) 0 [], FnAt C (f 3) (fnB (stIn 10 0)) (fnSc (stIn 10 0)) (["self"] : List Str) 1 [], FnAt C (f 4) (fnB (stIn 10 1)) (fnSc (stIn 10 1)) (["self", "text"] : List Str) 2 [], FnAt C (f 5) (fnB (stIn 10 3)) (fnSc (stIn 10 3)) (["self", "atom", "arity"] : List Str) 3 [], FnAt C (f 6) (fnB (stIn 10 4)) (fnSc (stIn 10 4)) (["self", "text", "arity"] : List Str) 3 [], FnAt C (f 7) (fnB (stIn 10 5)) (fnSc (stIn 10 5)) (["self", "functor"] : List Str) 2 [], FnAt C (f 8) (fnB (stIn 10 6)) (fnSc (stIn 10 6)) (["self", "functor"] : List Str) 2 [], FnAt C (f 9) (fnB (stTop 12)) (fnSc (stTop 12)) (["formal"] : List Str) 1 [], FnAt C (f 10) (fnB (stTop 13)) (fnSc (stTop 13)) (["symbols", "name", "parts"] : List Str) 3 [], FnAt C (f 11) (fnB (stTop 14)) (fnSc (stTop 14)) (["symbols", "what"] : List Str) 2 [], FnAt C (f 12) (fnB (stTop 16)) (fnSc (stTop 16)) (["code"] : List Str) 1 [], FnAt C (f 13) (fnB (stTop 17)) (fnSc (stTop 17)) (["code"] : List Str) 1 [], FnAt C (f 14) (fnB (stIn 29 0)) (fnSc (stIn 29 0)) (["self", "symbols", "max_heap"] : List Str) 3 [], FnAt C (f 15) (fnB (stIn 29 3)) (fnSc (stIn 29 3)) (["self", "count"] : List Str) 2 [], FnAt C (f 16) (fnB (stIn 29 5)) (fnSc (stIn 29 5)) (["self", "cell"] : List Str) 2 [], FnAt C (f 17) (fnB (stIn 29 9)) (fnSc (stIn 29 9)) (["self", "cell"] : List Str) 2 [], FnAt C (f 18) (fnB (stIn 29 13)) (fnSc (stIn 29 13)) (["self", "cell"] : List Str) 2 [], FnAt C (f 19) (fnB (stIn 29 14)) (fnSc (stIn 29 14)) (["self", "cell"] : List Str) 2 [], FnAt C (f 20) (fnB (stIn 29 15)) (fnSc (stIn 29 15)) (["self", "cell"] : List Str) 2 [], FnAt C (f 21) (fnB (stIn 29 16)) (fnSc (stIn 29 16)) (["self", "cell"] : List Str) 2 [], FnAt C (f 22) (fnB (stIn 29 18)) (fnSc (stIn 29 18)) (["self", "f"] : List Str) 2 [], FnAt C (f 23) (fnB (stIn 30 0)) (fnSc (stIn 30 0)) (["self", "f", "cells"] : List Str) 3 [], FnAt C (f 24) (fnB (stIn 30 1)) (fnSc (stIn 30 1)) (["self", "cells", "tail"] : List Str) 2 [AV.none], FnAt C (f 25) (fnB (stIn 30 4)) (fnSc (stIn 30 4)) (["self", "cell", "sizes"] : List Str) 3 [], FnAt C (f 26) (fnB (stIn 30 5)) (fnSc (stIn 30 5)) (["self", "cell", "table"] : List Str) 3 [], FnAt C (f 27) (fnB (stTop 34)) (fnSc (stTop 34)) (["m", "text"] : List Str) 2 [], FnAt C (f 28) (fnB (stTop 35)) (fnSc (stTop 35)) (["text"] : List Str) 1 [], FnAt C (f 29) (fnB (stTop 36)) (fnSc (stTop 36)) (["text"] : List Str) 1 [], FnAt C (f 30) (fnB (stTop 37)) (fnSc (stTop 37)) (["length", "before", "size", "after"] : List Str) 4 [], FnAt C (f 31) (fnB (stTop 38)) (fnSc (stTop 38)) (["m", "text", "before", "size", "after", "sub"] : List Str) 6 [], FnAt C (f 32) (fnB (stTop 39)) (fnSc (stTop 39)) (["whole", "first", "second"] : List Str) 3 [], FnAt C (f 33) (fnB (stIn 42 0)) (fnSc (stIn 42 0)) (["self", "symbols", "code", "max_heap", "occurs", "max_bits"] : List Str) 4 [AV.bool true, AV.int 4096], FnAt C (f 34) (fnB (stIn 42 1)) (fnSc (stIn 42 1)) (["self"] : List Str) 1 [], FnAt C (f 35) (fnB (stIn 42 6)) (fnSc (stIn 42 6)) (["self", "cell"] : List Str) 2 [], FnAt C (f 36) (fnB (stTop 44)) (fnSc (stTop 44)) (["salt", "limit"] : List Str) 2 [], FnAt C (f 37) (fnB (stTop 45)) (fnSc (stTop 45)) (["salt", "most"] : List Str) 2 [], FnAt C (f 38) (fnB (stTop 46)) (fnSc (stTop 46)) (["salt"] : List Str) 1 [], FnAt C (f 39) (fnB (stTop 47)) (fnSc (stTop 47)) (["length", "before", "wide", "behind"] : List Str) 4 [], FnAt C (f 40) (fnB (stTop 48)) (fnSc (stTop 48)) (["names", "text", "parts", "asked"] : List Str) 4 [], FnAt C (f 41) (fnB (stTop 49)) (fnSc (stTop 49)) (["names", "text", "wants", "asked", "room"] : List Str) 5 [], FnAt C (f 42) (fnB (stTop 50)) (fnSc (stTop 50)) (["text"] : List Str) 1 []]
structure PC (C : Ctx) (f : Nat → Addr) : Prop where
 lim : ∀ A L cl, C.lim A L cl
 con : ∀ i, at_ (fun q => ∃ t, C.mg q.1 = some (.int q.2 t)) conL i
 rd : ∃ t, C.mg "READ" = some (.str ⟨([114, 101, 97, 100] : List Nat).toArray⟩ t)
 void : ∃ a t u m, C.mg "VOID" = some (.ref a) ∧ C.h₀.get? a = some (tupObj #[.int 5 t, .int 0 u] m)
 non : ∀ i, at_ (fun x => C.mg x = none) nonL i
 gf : ∀ i, at_ (fun q => C.mg q.1 = some (.ref (f q.2))) gL i
 gc : ∀ i, at_ (fun q => C.mg q.1 = some (.ref (C.cls q.2))) cL i
 kf : ∀ k, keepIn C.K (.ref (f k)) = true
 kc : ∀ c, keepIn C.K (.ref (C.cls c)) = true
 isf : ∀ k, isFn C.K (.ref (f k)) = true
 mk0 : makesIn C.K (C.cls 0) = true
 mk2 : makesIn C.K (C.cls 2) = true
 mk3 : makesIn C.K (C.cls 3) = true
 m : ∀ i, at_ (fun q => findIn C.K (.ref (C.cls q.1)) q.2.1 = some (some (.ref (f q.2.2)))) mL i
 fn : ∀ k, (fnP C f).getD k True
 excC : ExcC C.K (C.cls 1)
 excS : ExcS C.K (C.cls 1) "ball"
 ball : ExcG C.K (C.cls 1) "ball"
end Mine
end
section
open PySem PySem.W PySem.Calls PyProof.Rows
namespace Mine
section
variable {C : Ctx} {f : Nat → Addr}
theorem S_fixed_atoms : FnS (fnSc (stTop 8)) (([] : List Str) ++ ([] : List Str)) ([] : List Str) := ⟨rfl, by decide +kernel, by decide +kernel, by decide +kernel, by decide +kernel⟩
theorem snd_fixed_atoms (P : PC C f) : FnSnd C 11 (.ref (f 1)) sp_fixed_atoms := by
 unfold sp_fixed_atoms
 refine FnSnd.of_body (n := 10) (gn := ([] : List Str)) ([] : List Str) ([] : List Str) 0 [] P.lim (P.fn 1) S_fixed_atoms ?_ ?_ ?_ ?_ ?_
 exact rfl
 unfold d_fixed_atoms
 refine .cons ?_ ?_
 refine .ret ?_
 refine .tup ?_
 exact .consts (by decide +kernel)
 exact .nil
 decide +kernel
 exact rfl
 exact rfl
theorem S_fixed_functors : FnS (fnSc (stTop 9)) (([] : List Str) ++ ([] : List Str)) ([] : List Str) := ⟨rfl, by decide +kernel, by decide +kernel, by decide +kernel, by decide +kernel⟩
theorem snd_fixed_functors (P : PC C f) : FnSnd C 11 (.ref (f 2)) sp_fixed_functors := by
 unfold sp_fixed_functors
 refine FnSnd.of_body (n := 10) (gn := ([] : List Str)) ([] : List Str) ([] : List Str) 0 [] P.lim (P.fn 2) S_fixed_functors ?_ ?_ ?_ ?_ ?_
 exact rfl
 unfold d_fixed_functors
 refine .cons ?_ ?_
 refine .ret ?_
 refine .tup ?_
 exact .consts (by decide +kernel)
 exact .nil
 decide +kernel
 exact rfl
 exact rfl
theorem S_sy_atom : FnS (fnSc (stIn 10 1)) ((["self", "text"] : List Str) ++ (["found", "number"] : List Str)) (["len"] : List Str) := ⟨rfl, by decide +kernel, by decide +kernel, by decide +kernel, by decide +kernel⟩
theorem bod_sy_atom (P : PC C f) : SndS C 0 (fnSc (stIn 10 1)) ((["self", "text"] : List Str) ++ (["found", "number"] : List Str)) (fnB (stIn 10 1)) d_sy_atom := by
 have S := S_sy_atom
 unfold d_sy_atom
 refine .cons ?_ ?_
 refine .assign S 2 rfl (fun _ => rfl) ?_
 refine .methB .dict (fun _ _ => rfl) (by decide) rfl PySem.F.plainAttrs_dict PySem.F.slot_dict_get PySem.F.type_dict_get bi_get ?_ ?_
 refine .attr 1 rfl (by decide) (fun _ _ => rfl) ?_
 exact .var S 0 rfl
 refine .cons (SR rfl) ?_ ?_
 exact .var S 1 rfl
 refine .cons (SR rfl) ?_ ?_
 refine .neg ?_
 exact .cint
 exact .nil
 refine .cons ?_ ?_
 refine .if_ ?_ ?_ ?_
 refine .cmp rfl ?_ ?_
 exact .var S 2 rfl
 exact .cint
 refine .cons ?_ ?_
 refine .ret ?_
 exact .var S 2 rfl
 exact .nil
 exact .nil
 refine .cons ?_ ?_
 refine .assign S 3 rfl (fun _ => rfl) ?_
 refine .callBi (bi := "len") S 0 rfl (P.non 0) rfl (by decide) bi_len ?_
 refine .cons (SR rfl) ?_ ?_
 refine .attr 0 rfl (by decide) (fun _ _ => rfl) ?_
 exact .var S 0 rfl
 exact .nil
 refine .cons ?_ ?_
 refine .expr S (fun _ => rfl) ?_
 refine .methB .list (fun _ _ => rfl) (by decide) rfl PySem.F.plainAttrs_list PySem.F.slot_list_append PySem.F.type_list_append bi_append ?_ ?_
 refine .attr 0 rfl (by decide) (fun _ _ => rfl) ?_
 exact .var S 0 rfl
 refine .cons (SR rfl) ?_ ?_
 exact .var S 1 rfl
 exact .nil
 refine .cons ?_ ?_
 refine .setItem (fun _ => rfl) ?_ ?_ ?_
 exact .var S 3 rfl
 refine .attr 1 rfl (by decide) (fun _ _ => rfl) ?_
 exact .var S 0 rfl
 exact .var S 1 rfl
 refine .cons ?_ ?_
 refine .ret ?_
 exact .var S 3 rfl
 exact .nil
theorem snd_sy_atom (P : PC C f) : FnSnd C 1 (.ref (f 4)) sp_sy_atom := by
 unfold sp_sy_atom
 refine FnSnd.of_body (n := 0) (gn := (["len"] : List Str)) (["self", "text"] : List Str) (["found", "number"] : List Str) 2 [] P.lim (P.fn 4) S_sy_atom ?_ ?_ ?_ ?_ ?_
 exact rfl
 exact bod_sy_atom P
 decide +kernel
 exact rfl
 exact rfl
theorem S_sy_functor : FnS (fnSc (stIn 10 3)) ((["self", "atom", "arity"] : List Str) ++ (["key", "found", "number"] : List Str)) (["len"] : List Str) := ⟨rfl, by decide +kernel, by decide +kernel, by decide +kernel, by decide +kernel⟩
theorem bod_sy_functor (P : PC C f) : SndS C 0 (fnSc (stIn 10 3)) ((["self", "atom", "arity"] : List Str) ++ (["key", "found", "number"] : List Str)) (fnB (stIn 10 3)) d_sy_functor := by
 have S := S_sy_functor
 unfold d_sy_functor
 refine .cons ?_ ?_
 refine .assign S 3 rfl (fun _ => rfl) ?_
 refine .tup ?_
 refine .cons (SR rfl) ?_ ?_
 exact .var S 1 rfl
 refine .cons (SR rfl) ?_ ?_
 exact .var S 2 rfl
 exact .nil
 refine .cons ?_ ?_
 refine .assign S 4 rfl (fun _ => rfl) ?_
 refine .methB .dict (fun _ _ => rfl) (by decide) rfl PySem.F.plainAttrs_dict PySem.F.slot_dict_get PySem.F.type_dict_get bi_get ?_ ?_
 refine .attr 3 rfl (by decide) (fun _ _ => rfl) ?_
 exact .var S 0 rfl
 refine .cons (SR rfl) ?_ ?_
 exact .var S 3 rfl
 refine .cons (SR rfl) ?_ ?_
 refine .neg ?_
 exact .cint
 exact .nil
 refine .cons ?_ ?_
 refine .if_ ?_ ?_ ?_
 refine .cmp rfl ?_ ?_
 exact .var S 4 rfl
 exact .cint
 refine .cons ?_ ?_
 refine .ret ?_
 exact .var S 4 rfl
 exact .nil
 exact .nil
 refine .cons ?_ ?_
 refine .assign S 5 rfl (fun _ => rfl) ?_
 refine .callBi (bi := "len") S 0 rfl (P.non 0) rfl (by decide) bi_len ?_
 refine .cons (SR rfl) ?_ ?_
 refine .attr 2 rfl (by decide) (fun _ _ => rfl) ?_
 exact .var S 0 rfl
 exact .nil
 refine .cons ?_ ?_
 refine .expr S (fun _ => rfl) ?_
 refine .methB .list (fun _ _ => rfl) (by decide) rfl PySem.F.plainAttrs_list PySem.F.slot_list_append PySem.F.type_list_append bi_append ?_ ?_
 refine .attr 2 rfl (by decide) (fun _ _ => rfl) ?_
 exact .var S 0 rfl
 refine .cons (SR rfl) ?_ ?_
 exact .var S 3 rfl
 exact .nil
 refine .cons ?_ ?_
 refine .setItem (fun _ => rfl) ?_ ?_ ?_
 exact .var S 5 rfl
 refine .attr 3 rfl (by decide) (fun _ _ => rfl) ?_
 exact .var S 0 rfl
 exact .var S 3 rfl
 refine .cons ?_ ?_
 refine .ret ?_
 exact .var S 5 rfl
 exact .nil
theorem snd_sy_functor (P : PC C f) : FnSnd C 1 (.ref (f 5)) sp_sy_functor := by
 unfold sp_sy_functor
 refine FnSnd.of_body (n := 0) (gn := (["len"] : List Str)) (["self", "atom", "arity"] : List Str) (["key", "found", "number"] : List Str) 3 [] P.lim (P.fn 5) S_sy_functor ?_ ?_ ?_ ?_ ?_
 exact rfl
 exact bod_sy_functor P
 decide +kernel
 exact rfl
 exact rfl
theorem S_sy_func : FnS (fnSc (stIn 10 4)) ((["self", "text", "arity"] : List Str) ++ ([] : List Str)) ([] : List Str) := ⟨rfl, by decide +kernel, by decide +kernel, by decide +kernel, by decide +kernel⟩
theorem bod_sy_func (P : PC C f) : SndS C 1 (fnSc (stIn 10 4)) ((["self", "text", "arity"] : List Str) ++ ([] : List Str)) (fnB (stIn 10 4)) d_sy_func := by
 have S := S_sy_func
 unfold d_sy_func
 refine .cons ?_ ?_
 refine .ret ?_
 refine .meth (c := 0) (by decide) (fun _ _ => rfl) (by decide) rfl (P.m 4) (P.isf 5) (by decide +kernel) (P.kf 5) (snd_sy_functor P) (by decide) ?_ ?_
 exact .var S 0 rfl
 refine .cons (SR rfl) ?_ ?_
 refine .meth (c := 0) (by decide) (fun _ _ => rfl) (by decide) rfl (P.m 3) (P.isf 4) (by decide +kernel) (P.kf 4) (snd_sy_atom P) (by decide) ?_ ?_
 exact .var S 0 rfl
 refine .cons (SR rfl) ?_ ?_
 exact .var S 1 rfl
 exact .nil
 refine .cons (SR rfl) ?_ ?_
 exact .var S 2 rfl
 exact .nil
 exact .nil
theorem snd_sy_func (P : PC C f) : FnSnd C 2 (.ref (f 6)) sp_sy_func := by
 unfold sp_sy_func
 refine FnSnd.of_body (n := 1) (gn := ([] : List Str)) (["self", "text", "arity"] : List Str) ([] : List Str) 3 [] P.lim (P.fn 6) S_sy_func ?_ ?_ ?_ ?_ ?_
 exact rfl
 exact bod_sy_func P
 decide +kernel
 exact rfl
 exact rfl
theorem S_sy_init : FnS (fnSc (stIn 10 0)) ((["self"] : List Str) ++ (["text", "row"] : List Str)) (["fixed_atoms", "fixed_functors"] : List Str) := ⟨rfl, by decide +kernel, by decide +kernel, by decide +kernel, by decide +kernel⟩
theorem bod_sy_init (P : PC C f) : SndS C 12 (fnSc (stIn 10 0)) ((["self"] : List Str) ++ (["text", "row"] : List Str)) (fnB (stIn 10 0)) d_sy_init := by
 have S := S_sy_init
 unfold d_sy_init
 refine .cons ?_ ?_
 refine .setAttr 0 rfl (fun _ => rfl) ?_ ?_
 refine .list ?_
 exact .nil
 exact .var S 0 rfl
 refine .cons ?_ ?_
 refine .setAttr 1 rfl (fun _ => rfl) ?_ ?_
 exact .dictS
 exact .var S 0 rfl
 refine .cons ?_ ?_
 refine .setAttr 2 rfl (fun _ => rfl) ?_ ?_
 refine .list ?_
 exact .nil
 exact .var S 0 rfl
 refine .cons ?_ ?_
 refine .setAttr 3 rfl (fun _ => rfl) ?_ ?_
 exact .dictP
 exact .var S 0 rfl
 refine .cons ?_ ?_
 refine .for_ (by decide) TgtName.name (fun _ _ => rfl) (gName_chk 1) ?_ ?_ ?_
 refine .callFn S 0 rfl (P.gf 0) (.of_K (P.kf 1)) (snd_fixed_atoms P) (by decide) ?_
 exact .nil
 exact .name S 1 rfl
 refine .cons ?_ ?_
 refine .expr S (fun _ => rfl) ?_
 refine .meth (c := 0) (by decide) (fun _ _ => rfl) (by decide) rfl (P.m 3) (P.isf 4) (by decide +kernel) (P.kf 4) (snd_sy_atom P) (by decide) ?_ ?_
 exact .var S 0 rfl
 refine .cons (SR rfl) ?_ ?_
 exact .var S 1 rfl
 exact .nil
 exact .nil
 refine .cons ?_ ?_
 refine .for_ (by decide) TgtName.name (fun _ _ => rfl) (gName_chk 2) ?_ ?_ ?_
 refine .callFn S 1 rfl (P.gf 1) (.of_K (P.kf 2)) (snd_fixed_functors P) (by decide) ?_
 exact .nil
 exact .name S 2 rfl
 refine .cons ?_ ?_
 refine .expr S (fun _ => rfl) ?_
 refine .meth (c := 0) (by decide) (fun _ _ => rfl) (by decide) rfl (P.m 5) (P.isf 6) (by decide +kernel) (P.kf 6) (snd_sy_func P) (by decide) ?_ ?_
 exact .var S 0 rfl
 refine .cons (SR rfl) ?_ ?_
 refine .item (fun _ _ => rfl) ?_ ?_
 exact .var S 2 rfl
 exact .cint
 refine .cons (SR rfl) ?_ ?_
 refine .item (fun _ _ => rfl) ?_ ?_
 exact .var S 2 rfl
 exact .cint
 exact .nil
 exact .nil
 exact .nil
theorem snd_sy_init (P : PC C f) : FnSnd C 13 (.ref (f 3)) sp_sy_init := by
 unfold sp_sy_init
 refine FnSnd.of_body (n := 12) (gn := (["fixed_atoms", "fixed_functors"] : List Str)) (["self"] : List Str) (["text", "row"] : List Str) 1 [] P.lim (P.fn 3) S_sy_init ?_ ?_ ?_ ?_ ?_
 exact rfl
 exact bod_sy_init P
 decide +kernel
 exact rfl
 exact rfl
theorem S_sy_name : FnS (fnSc (stIn 10 5)) ((["self", "functor"] : List Str) ++ ([] : List Str)) ([] : List Str) := ⟨rfl, by decide +kernel, by decide +kernel, by decide +kernel, by decide +kernel⟩
theorem bod_sy_name (P : PC C f) : SndS C 10 (fnSc (stIn 10 5)) ((["self", "functor"] : List Str) ++ ([] : List Str)) (fnB (stIn 10 5)) d_sy_name := by
 have S := S_sy_name
 unfold d_sy_name
 refine .cons ?_ ?_
 refine .ret ?_
 refine .item (fun _ _ => rfl) ?_ ?_
 refine .item (fun _ _ => rfl) ?_ ?_
 refine .attr 2 rfl (by decide) (fun _ _ => rfl) ?_
 exact .var S 0 rfl
 exact .var S 1 rfl
 exact .cint
 exact .nil
theorem snd_sy_name (P : PC C f) : FnSnd C 11 (.ref (f 7)) sp_sy_name := by
 unfold sp_sy_name
 refine FnSnd.of_body (n := 10) (gn := ([] : List Str)) (["self", "functor"] : List Str) ([] : List Str) 2 [] P.lim (P.fn 7) S_sy_name ?_ ?_ ?_ ?_ ?_
 exact rfl
 exact bod_sy_name P
 decide +kernel
 exact rfl
 exact rfl
theorem S_sy_arity : FnS (fnSc (stIn 10 6)) ((["self", "functor"] : List Str) ++ ([] : List Str)) ([] : List Str) := ⟨rfl, by decide +kernel, by decide +kernel, by decide +kernel, by decide +kernel⟩
theorem bod_sy_arity (P : PC C f) : SndS C 10 (fnSc (stIn 10 6)) ((["self", "functor"] : List Str) ++ ([] : List Str)) (fnB (stIn 10 6)) d_sy_arity := by
 have S := S_sy_arity
 unfold d_sy_arity
 refine .cons ?_ ?_
 refine .ret ?_
 refine .item (fun _ _ => rfl) ?_ ?_
 refine .item (fun _ _ => rfl) ?_ ?_
 refine .attr 2 rfl (by decide) (fun _ _ => rfl) ?_
 exact .var S 0 rfl
 exact .var S 1 rfl
 exact .cint
 exact .nil
theorem snd_sy_arity (P : PC C f) : FnSnd C 11 (.ref (f 8)) sp_sy_arity := by
 unfold sp_sy_arity
 refine FnSnd.of_body (n := 10) (gn := ([] : List Str)) (["self", "functor"] : List Str) ([] : List Str) 2 [] P.lim (P.fn 8) S_sy_arity ?_ ?_ ?_ ?_ ?_
 exact rfl
 exact bod_sy_arity P
 decide +kernel
 exact rfl
 exact rfl
theorem snd_cPrologError (P : PC C f) : FnSnd C 12 (.ref (C.cls 1)) sp_cPrologError := exc_snd P.excC P.excS (P.m 22) (P.isf 0) (P.fn 0)
theorem S_system_error : FnS (fnSc (stTop 12)) ((["formal"] : List Str) ++ ([] : List Str)) (["PrologError", "F_ERROR", "A_SYSTEM"] : List Str) := ⟨rfl, by decide +kernel, by decide +kernel, by decide +kernel, by decide +kernel⟩
theorem bod_system_error (P : PC C f) : SndS C 13 (fnSc (stTop 12)) ((["formal"] : List Str) ++ ([] : List Str)) (fnB (stTop 12)) d_system_error := by
 have S := S_system_error
 unfold d_system_error
 refine .cons ?_ ?_
 refine .ret ?_
 refine .callFn S 0 rfl (P.gc 1) (.of_K (P.kc 1)) (snd_cPrologError P) (by decide) ?_
 refine .cons (SR rfl) ?_ ?_
 refine .tup ?_
 refine .cons (SR rfl) ?_ ?_
 exact .cstr (by decide +kernel)
 refine .cons (SR rfl) ?_ ?_
 exact .globI S 1 rfl (P.con 3)
 refine .cons (SR rfl) ?_ ?_
 refine .tup ?_
 refine .cons (SR rfl) ?_ ?_
 exact .var S 0 rfl
 refine .cons (SR rfl) ?_ ?_
 refine .tup ?_
 refine .cons (SR rfl) ?_ ?_
 exact .cstr (by decide +kernel)
 refine .cons (SR rfl) ?_ ?_
 exact .globI S 2 rfl (P.con 1)
 exact .nil
 exact .nil
 exact .nil
 exact .nil
 exact .nil
theorem snd_system_error (P : PC C f) : FnSnd C 14 (.ref (f 9)) sp_system_error := by
 unfold sp_system_error
 refine FnSnd.of_body (n := 13) (gn := (["PrologError", "F_ERROR", "A_SYSTEM"] : List Str)) (["formal"] : List Str) ([] : List Str) 1 [] P.lim (P.fn 9) S_system_error ?_ ?_ ?_ ?_ ?_
 exact rfl
 exact bod_system_error P
 decide +kernel
 exact rfl
 exact rfl
theorem S_formal_of : FnS (fnSc (stTop 13)) ((["symbols", "name", "parts"] : List Str) ++ (["args", "part"] : List Str)) (["isinstance", "str", "len", "tuple"] : List Str) := ⟨rfl, by decide +kernel, by decide +kernel, by decide +kernel, by decide +kernel⟩
theorem bod_formal_of (P : PC C f) : SndS C 10 (fnSc (stTop 13)) ((["symbols", "name", "parts"] : List Str) ++ (["args", "part"] : List Str)) (fnB (stTop 13)) d_formal_of := by
 have S := S_formal_of
 unfold d_formal_of
 refine .cons ?_ ?_
 refine .assign S 3 rfl (fun _ => rfl) ?_
 refine .list ?_
 exact .nil
 refine .cons ?_ ?_
 refine .for_ (by decide) TgtName.name (fun _ _ => rfl) (gName_chk 4) ?_ ?_ ?_
 exact .var S 2 rfl
 exact .name S 4 rfl
 refine .cons ?_ ?_
 refine .expr S (fun _ => rfl) ?_
 refine .methB .list (fun _ _ => rfl) (by decide) rfl PySem.F.plainAttrs_list PySem.F.slot_list_append PySem.F.type_list_append bi_append ?_ ?_
 exact .var S 3 rfl
 refine .cons (SR rfl) ?_ ?_
 refine .ifexp ?_ ?_ ?_
 refine .val ?_ (fun _ _ => rfl)
 refine .isStr S 0 1 rfl (P.non 7) rfl (P.non 8) (fun _ => rfl) ?_
 exact .var S 4 rfl
 refine .tup ?_
 refine .cons (SR rfl) ?_ ?_
 exact .cstr (by decide +kernel)
 refine .cons (SR rfl) ?_ ?_
 refine .meth (c := 0) (by decide) (fun _ _ => rfl) (by decide) rfl (P.m 3) (P.isf 4) (by decide +kernel) (P.kf 4) (snd_sy_atom P) (by decide) ?_ ?_
 exact .var S 0 rfl
 refine .cons (SR rfl) ?_ ?_
 exact .var S 4 rfl
 exact .nil
 exact .nil
 exact .var S 4 rfl
 exact .nil
 exact .nil
 refine .cons ?_ ?_
 refine .ret ?_
 refine .tup ?_
 refine .cons (SR rfl) ?_ ?_
 exact .cstr (by decide +kernel)
 refine .cons (SR rfl) ?_ ?_
 refine .meth (c := 0) (by decide) (fun _ _ => rfl) (by decide) rfl (P.m 5) (P.isf 6) (by decide +kernel) (P.kf 6) (snd_sy_func P) (by decide) ?_ ?_
 exact .var S 0 rfl
 refine .cons (SR rfl) ?_ ?_
 exact .var S 1 rfl
 refine .cons (SR rfl) ?_ ?_
 refine .callBi (bi := "len") S 2 rfl (P.non 0) rfl (by decide) bi_len ?_
 refine .cons (SR rfl) ?_ ?_
 exact .var S 3 rfl
 exact .nil
 exact .nil
 refine .cons (SR rfl) ?_ ?_
 refine .callTuple S 3 rfl (P.non 6) ?_
 refine .cons (SR rfl) ?_ ?_
 exact .var S 3 rfl
 exact .nil
 exact .nil
 exact .nil
theorem snd_formal_of (P : PC C f) : FnSnd C 11 (.ref (f 10)) sp_formal_of := by
 unfold sp_formal_of
 refine FnSnd.of_body (n := 10) (gn := (["isinstance", "str", "len", "tuple"] : List Str)) (["symbols", "name", "parts"] : List Str) (["args", "part"] : List Str) 3 [] P.lim (P.fn 10) S_formal_of ?_ ?_ ?_ ?_ ?_
 exact rfl
 exact bod_formal_of P
 decide +kernel
 exact rfl
 exact rfl
theorem S_resource_error : FnS (fnSc (stTop 14)) ((["symbols", "what"] : List Str) ++ ([] : List Str)) (["system_error", "formal_of"] : List Str) := ⟨rfl, by decide +kernel, by decide +kernel, by decide +kernel, by decide +kernel⟩
theorem bod_resource_error (P : PC C f) : SndS C 15 (fnSc (stTop 14)) ((["symbols", "what"] : List Str) ++ ([] : List Str)) (fnB (stTop 14)) d_resource_error := by
 have S := S_resource_error
 unfold d_resource_error
 refine .cons ?_ ?_
 refine .ret ?_
 refine .callFn S 0 rfl (P.gf 2) (.of_K (P.kf 9)) (snd_system_error P) (by decide) ?_
 refine .cons (SR rfl) ?_ ?_
 refine .callFn S 1 rfl (P.gf 3) (.of_K (P.kf 10)) (snd_formal_of P) (by decide) ?_
 refine .cons (SR rfl) ?_ ?_
 exact .var S 0 rfl
 refine .cons (SR rfl) ?_ ?_
 exact .cstr (by decide +kernel)
 refine .cons (SR rfl) ?_ ?_
 refine .tup ?_
 refine .cons (SR rfl) ?_ ?_
 exact .var S 1 rfl
 exact .nil
 exact .nil
 exact .nil
 exact .nil
theorem snd_resource_error (P : PC C f) : FnSnd C 16 (.ref (f 11)) sp_resource_error := by
 unfold sp_resource_error
 refine FnSnd.of_body (n := 15) (gn := (["system_error", "formal_of"] : List Str)) (["symbols", "what"] : List Str) ([] : List Str) 2 [] P.lim (P.fn 11) S_resource_error ?_ ?_ ?_ ?_ ?_
 exact rfl
 exact bod_resource_error P
 decide +kernel
 exact rfl
 exact rfl
theorem S_is_small : FnS (fnSc (stTop 16)) ((["code"] : List Str) ++ ([] : List Str)) ([] : List Str) := ⟨rfl, by decide +kernel, by decide +kernel, by decide +kernel, by decide +kernel⟩
theorem bod_is_small (P : PC C f) : SndS C 10 (fnSc (stTop 16)) ((["code"] : List Str) ++ ([] : List Str)) (fnB (stTop 16)) d_is_small := by
 have S := S_is_small
 unfold d_is_small
 refine .cons ?_ ?_
 refine .ret ?_
 refine .and2 ?_ ?_
 refine .cmp rfl ?_ ?_
 exact .cint
 exact .var S 0 rfl
 refine .cmp rfl ?_ ?_
 exact .var S 0 rfl
 exact .cint
 exact .nil
theorem snd_is_small (P : PC C f) : FnSnd C 11 (.ref (f 12)) sp_is_small := by
 unfold sp_is_small
 refine FnSnd.of_body (n := 10) (gn := ([] : List Str)) (["code"] : List Str) ([] : List Str) 1 [] P.lim (P.fn 12) S_is_small ?_ ?_ ?_ ?_ ?_
 exact rfl
 exact bod_is_small P
 decide +kernel
 exact rfl
 exact rfl
theorem S_is_capital : FnS (fnSc (stTop 17)) ((["code"] : List Str) ++ ([] : List Str)) ([] : List Str) := ⟨rfl, by decide +kernel, by decide +kernel, by decide +kernel, by decide +kernel⟩
theorem bod_is_capital (P : PC C f) : SndS C 10 (fnSc (stTop 17)) ((["code"] : List Str) ++ ([] : List Str)) (fnB (stTop 17)) d_is_capital := by
 have S := S_is_capital
 unfold d_is_capital
 refine .cons ?_ ?_
 refine .ret ?_
 refine .and2 ?_ ?_
 refine .cmp rfl ?_ ?_
 exact .cint
 exact .var S 0 rfl
 refine .cmp rfl ?_ ?_
 exact .var S 0 rfl
 exact .cint
 exact .nil
theorem snd_is_capital (P : PC C f) : FnSnd C 11 (.ref (f 13)) sp_is_capital := by
 unfold sp_is_capital
 refine FnSnd.of_body (n := 10) (gn := ([] : List Str)) (["code"] : List Str) ([] : List Str) 1 [] P.lim (P.fn 13) S_is_capital ?_ ?_ ?_ ?_ ?_
 exact rfl
 exact bod_is_capital P
 decide +kernel
 exact rfl
 exact rfl
theorem S_ce_init : FnS (fnSc (stIn 29 0)) ((["self", "symbols", "max_heap"] : List Str) ++ ([] : List Str)) ([] : List Str) := ⟨rfl, by decide +kernel, by decide +kernel, by decide +kernel, by decide +kernel⟩
theorem bod_ce_init (P : PC C f) : SndS C 10 (fnSc (stIn 29 0)) ((["self", "symbols", "max_heap"] : List Str) ++ ([] : List Str)) (fnB (stIn 29 0)) d_ce_init := by
 have S := S_ce_init
 unfold d_ce_init
 refine .cons ?_ ?_
 refine .setAttr 5 rfl (fun _ => rfl) ?_ ?_
 exact .var S 1 rfl
 exact .var S 0 rfl
 refine .cons ?_ ?_
 refine .setAttr 6 rfl (fun _ => rfl) ?_ ?_
 exact .var S 2 rfl
 exact .var S 0 rfl
 refine .cons ?_ ?_
 refine .setAttr 7 rfl (fun _ => rfl) ?_ ?_
 refine .list ?_
 exact .nil
 exact .var S 0 rfl
 refine .cons ?_ ?_
 refine .setAttr 8 rfl (fun _ => rfl) ?_ ?_
 refine .list ?_
 exact .nil
 exact .var S 0 rfl
 refine .cons ?_ ?_
 refine .setAttr 9 rfl (fun _ => rfl) ?_ ?_
 refine .list ?_
 exact .nil
 exact .var S 0 rfl
 refine .cons ?_ ?_
 refine .setAttr 10 rfl (fun _ => rfl) ?_ ?_
 exact .cint
 exact .var S 0 rfl
 refine .cons ?_ ?_
 refine .setAttr 11 rfl (fun _ => rfl) ?_ ?_
 exact .cint
 exact .var S 0 rfl
 exact .nil
theorem snd_ce_init (P : PC C f) : FnSnd C 11 (.ref (f 14)) sp_ce_init := by
 unfold sp_ce_init
 refine FnSnd.of_body (n := 10) (gn := ([] : List Str)) (["self", "symbols", "max_heap"] : List Str) ([] : List Str) 3 [] P.lim (P.fn 14) S_ce_init ?_ ?_ ?_ ?_ ?_
 exact rfl
 exact bod_ce_init P
 decide +kernel
 exact rfl
 exact rfl
theorem S_ce_reserve : FnS (fnSc (stIn 29 3)) ((["self", "count"] : List Str) ++ (["first", "step"] : List Str)) (["len", "range", "REF"] : List Str) := ⟨rfl, by decide +kernel, by decide +kernel, by decide +kernel, by decide +kernel⟩
theorem bod_ce_reserve (P : PC C f) : SndS C 17 (fnSc (stIn 29 3)) ((["self", "count"] : List Str) ++ (["first", "step"] : List Str)) (fnB (stIn 29 3)) d_ce_reserve := by
 have S := S_ce_reserve
 unfold d_ce_reserve
 refine .cons ?_ ?_
 refine .assign S 2 rfl (fun _ => rfl) ?_
 refine .callBi (bi := "len") S 0 rfl (P.non 0) rfl (by decide) bi_len ?_
 refine .cons (SR rfl) ?_ ?_
 refine .attr 7 rfl (by decide) (fun _ _ => rfl) ?_
 exact .var S 0 rfl
 exact .nil
 refine .cons ?_ ?_
 refine .if_ ?_ ?_ ?_
 refine .cmp rfl ?_ ?_
 refine .bin ?_ ?_
 exact .var S 2 rfl
 exact .var S 1 rfl
 refine .attr 6 rfl (by decide) (fun _ _ => rfl) ?_
 exact .var S 0 rfl
 refine .cons ?_ ?_
 exact .stuck
 exact .nil
 exact .nil
 refine .cons ?_ ?_
 refine .forR (by decide) S 1 rfl (P.non 9) TgtName.name (gName_chk 3) ?_ ?_ ?_
 refine .cons (SR rfl) ?_ ?_
 exact .var S 1 rfl
 exact .nil
 exact .name S 3 rfl
 refine .cons ?_ ?_
 refine .expr S (fun _ => rfl) ?_
 refine .methB .list (fun _ _ => rfl) (by decide) rfl PySem.F.plainAttrs_list PySem.F.slot_list_append PySem.F.type_list_append bi_append ?_ ?_
 refine .attr 7 rfl (by decide) (fun _ _ => rfl) ?_
 exact .var S 0 rfl
 refine .cons (SR rfl) ?_ ?_
 refine .tup ?_
 refine .cons (SR rfl) ?_ ?_
 exact .globI S 2 rfl (P.con 4)
 refine .cons (SR rfl) ?_ ?_
 refine .bin ?_ ?_
 exact .var S 2 rfl
 exact .var S 3 rfl
 exact .nil
 exact .nil
 exact .nil
 refine .cons ?_ ?_
 refine .ret ?_
 exact .var S 2 rfl
 exact .nil
theorem snd_ce_reserve (P : PC C f) : FnSnd C 18 (.ref (f 15)) sp_ce_reserve := by
 unfold sp_ce_reserve
 refine FnSnd.of_body (n := 17) (gn := (["len", "range", "REF"] : List Str)) (["self", "count"] : List Str) (["first", "step"] : List Str) 2 [] P.lim (P.fn 15) S_ce_reserve ?_ ?_ ?_ ?_ ?_
 exact rfl
 exact bod_ce_reserve P
 decide +kernel
 exact rfl
 exact rfl
theorem S_ce_deref : FnS (fnSc (stIn 29 5)) ((["self", "cell"] : List Str) ++ (["tag", "found"] : List Str)) (["REF", "SRF"] : List Str) := ⟨rfl, by decide +kernel, by decide +kernel, by decide +kernel, by decide +kernel⟩
theorem bod_ce_deref (P : PC C f) : SndS C 10 (fnSc (stIn 29 5)) ((["self", "cell"] : List Str) ++ (["tag", "found"] : List Str)) (fnB (stIn 29 5)) d_ce_deref := by
 have S := S_ce_deref
 unfold d_ce_deref
 refine .cons ?_ ?_
 refine .while_ fuel ?_ ?_
 refine .val ?_ (fun _ _ => rfl)
 exact .cbool
 refine .cons ?_ ?_
 refine .assign S 2 rfl (fun _ => rfl) ?_
 refine .item (fun _ _ => rfl) ?_ ?_
 exact .var S 1 rfl
 exact .cint
 refine .cons ?_ ?_
 refine .if_ ?_ ?_ ?_
 refine .cmp rfl ?_ ?_
 exact .var S 2 rfl
 exact .globI S 0 rfl (P.con 4)
 refine .cons ?_ ?_
 refine .assign S 3 rfl (fun _ => rfl) ?_
 refine .item (fun _ _ => rfl) ?_ ?_
 refine .attr 7 rfl (by decide) (fun _ _ => rfl) ?_
 exact .var S 0 rfl
 refine .item (fun _ _ => rfl) ?_ ?_
 exact .var S 1 rfl
 exact .cint
 exact .nil
 refine .cons ?_ ?_
 refine .if_ ?_ ?_ ?_
 refine .cmp rfl ?_ ?_
 exact .var S 2 rfl
 exact .globI S 1 rfl (P.con 5)
 refine .cons ?_ ?_
 refine .assign S 3 rfl (fun _ => rfl) ?_
 refine .item (fun _ _ => rfl) ?_ ?_
 refine .attr 8 rfl (by decide) (fun _ _ => rfl) ?_
 exact .var S 0 rfl
 refine .item (fun _ _ => rfl) ?_ ?_
 exact .var S 1 rfl
 exact .cint
 exact .nil
 refine .cons ?_ ?_
 refine .ret ?_
 exact .var S 1 rfl
 exact .nil
 exact .nil
 refine .cons ?_ ?_
 refine .if_ ?_ ?_ ?_
 refine .cmp rfl ?_ ?_
 exact .var S 3 rfl
 exact .var S 1 rfl
 refine .cons ?_ ?_
 refine .ret ?_
 exact .var S 1 rfl
 exact .nil
 exact .nil
 refine .cons ?_ ?_
 refine .assign S 1 rfl (fun _ => rfl) ?_
 exact .var S 3 rfl
 exact .nil
 exact .nil
theorem snd_ce_deref (P : PC C f) : FnSnd C 11 (.ref (f 16)) sp_ce_deref := by
 unfold sp_ce_deref
 refine FnSnd.of_body (n := 10) (gn := (["REF", "SRF"] : List Str)) (["self", "cell"] : List Str) (["tag", "found"] : List Str) 2 [] P.lim (P.fn 16) S_ce_deref ?_ ?_ ?_ ?_ ?_
 exact rfl
 exact bod_ce_deref P
 decide +kernel
 exact rfl
 exact rfl
theorem S_ce_globalise : FnS (fnSc (stIn 29 9)) ((["self", "cell"] : List Str) ++ (["fresh"] : List Str)) (["SRF"] : List Str) := ⟨rfl, by decide +kernel, by decide +kernel, by decide +kernel, by decide +kernel⟩
theorem bod_ce_globalise (P : PC C f) : SndS C 11 (fnSc (stIn 29 9)) ((["self", "cell"] : List Str) ++ (["fresh"] : List Str)) (fnB (stIn 29 9)) d_ce_globalise := by
 have S := S_ce_globalise
 unfold d_ce_globalise
 refine .cons ?_ ?_
 refine .assign S 1 rfl (fun _ => rfl) ?_
 refine .meth (c := 2) (by decide) (fun _ _ => rfl) (by decide) rfl (P.m 9) (P.isf 16) (by decide +kernel) (P.kf 16) (snd_ce_deref P) (by decide) ?_ ?_
 exact .var S 0 rfl
 refine .cons (SR rfl) ?_ ?_
 exact .var S 1 rfl
 exact .nil
 refine .cons ?_ ?_
 refine .if_ ?_ ?_ ?_
 refine .cmp rfl ?_ ?_
 refine .item (fun _ _ => rfl) ?_ ?_
 exact .var S 1 rfl
 exact .cint
 exact .globI S 0 rfl (P.con 5)
 exact .stuck
 exact .nil
 refine .cons ?_ ?_
 refine .ret ?_
 exact .var S 1 rfl
 exact .nil
theorem snd_ce_globalise (P : PC C f) : FnSnd C 12 (.ref (f 17)) sp_ce_globalise := by
 unfold sp_ce_globalise
 refine FnSnd.of_body (n := 11) (gn := (["SRF"] : List Str)) (["self", "cell"] : List Str) (["fresh"] : List Str) 2 [] P.lim (P.fn 17) S_ce_globalise ?_ ?_ ?_ ?_ ?_
 exact rfl
 exact bod_ce_globalise P
 decide +kernel
 exact rfl
 exact rfl
theorem S_ce_is_compound : FnS (fnSc (stIn 29 13)) ((["self", "cell"] : List Str) ++ ([] : List Str)) (["STR", "LIS"] : List Str) := ⟨rfl, by decide +kernel, by decide +kernel, by decide +kernel, by decide +kernel⟩
theorem bod_ce_is_compound (P : PC C f) : SndS C 10 (fnSc (stIn 29 13)) ((["self", "cell"] : List Str) ++ ([] : List Str)) (fnB (stIn 29 13)) d_ce_is_compound := by
 have S := S_ce_is_compound
 unfold d_ce_is_compound
 refine .cons ?_ ?_
 refine .ret ?_
 refine .or2 ?_ ?_
 refine .cmp rfl ?_ ?_
 refine .item (fun _ _ => rfl) ?_ ?_
 exact .var S 1 rfl
 exact .cint
 exact .globI S 0 rfl (P.con 6)
 refine .cmp rfl ?_ ?_
 refine .item (fun _ _ => rfl) ?_ ?_
 exact .var S 1 rfl
 exact .cint
 exact .globI S 1 rfl (P.con 7)
 exact .nil
theorem snd_ce_is_compound (P : PC C f) : FnSnd C 11 (.ref (f 18)) sp_ce_is_compound := by
 unfold sp_ce_is_compound
 refine FnSnd.of_body (n := 10) (gn := (["STR", "LIS"] : List Str)) (["self", "cell"] : List Str) ([] : List Str) 2 [] P.lim (P.fn 18) S_ce_is_compound ?_ ?_ ?_ ?_ ?_
 exact rfl
 exact bod_ce_is_compound P
 decide +kernel
 exact rfl
 exact rfl
theorem S_ce_functor_of : FnS (fnSc (stIn 29 14)) ((["self", "cell"] : List Str) ++ (["tag"] : List Str)) (["STR", "LIS", "F_DOT", "CON"] : List Str) := ⟨rfl, by decide +kernel, by decide +kernel, by decide +kernel, by decide +kernel⟩
theorem bod_ce_functor_of (P : PC C f) : SndS C 12 (fnSc (stIn 29 14)) ((["self", "cell"] : List Str) ++ (["tag"] : List Str)) (fnB (stIn 29 14)) d_ce_functor_of := by
 have S := S_ce_functor_of
 unfold d_ce_functor_of
 refine .cons ?_ ?_
 refine .assign S 2 rfl (fun _ => rfl) ?_
 refine .item (fun _ _ => rfl) ?_ ?_
 exact .var S 1 rfl
 exact .cint
 refine .cons ?_ ?_
 refine .if_ ?_ ?_ ?_
 refine .cmp rfl ?_ ?_
 exact .var S 2 rfl
 exact .globI S 0 rfl (P.con 6)
 refine .cons ?_ ?_
 refine .ret ?_
 refine .item (fun _ _ => rfl) ?_ ?_
 refine .item (fun _ _ => rfl) ?_ ?_
 refine .attr 7 rfl (by decide) (fun _ _ => rfl) ?_
 exact .var S 0 rfl
 refine .item (fun _ _ => rfl) ?_ ?_
 exact .var S 1 rfl
 exact .cint
 exact .cint
 exact .nil
 exact .nil
 refine .cons ?_ ?_
 refine .if_ ?_ ?_ ?_
 refine .cmp rfl ?_ ?_
 exact .var S 2 rfl
 exact .globI S 1 rfl (P.con 7)
 refine .cons ?_ ?_
 refine .ret ?_
 exact .globI S 2 rfl (P.con 2)
 exact .nil
 exact .nil
 refine .cons ?_ ?_
 refine .if_ ?_ ?_ ?_
 refine .cmp rfl ?_ ?_
 exact .var S 2 rfl
 exact .globI S 3 rfl (P.con 8)
 refine .cons ?_ ?_
 refine .ret ?_
 refine .meth (c := 0) (by decide) (fun _ _ => rfl) (by decide) rfl (P.m 4) (P.isf 5) (by decide +kernel) (P.kf 5) (snd_sy_functor P) (by decide) ?_ ?_
 refine .attr 5 rfl (by decide) (fun _ _ => rfl) ?_
 exact .var S 0 rfl
 refine .cons (SR rfl) ?_ ?_
 refine .item (fun _ _ => rfl) ?_ ?_
 exact .var S 1 rfl
 exact .cint
 refine .cons (SR rfl) ?_ ?_
 exact .cint
 exact .nil
 exact .nil
 exact .nil
 refine .cons ?_ ?_
 refine .ret ?_
 refine .neg ?_
 exact .cint
 exact .nil
theorem snd_ce_functor_of (P : PC C f) : FnSnd C 13 (.ref (f 19)) sp_ce_functor_of := by
 unfold sp_ce_functor_of
 refine FnSnd.of_body (n := 12) (gn := (["STR", "LIS", "F_DOT", "CON"] : List Str)) (["self", "cell"] : List Str) (["tag"] : List Str) 2 [] P.lim (P.fn 19) S_ce_functor_of ?_ ?_ ?_ ?_ ?_
 exact rfl
 exact bod_ce_functor_of P
 decide +kernel
 exact rfl
 exact rfl
theorem S_ce_width : FnS (fnSc (stIn 29 15)) ((["self", "cell"] : List Str) ++ (["tag"] : List Str)) (["LIS", "STR"] : List Str) := ⟨rfl, by decide +kernel, by decide +kernel, by decide +kernel, by decide +kernel⟩
theorem bod_ce_width (P : PC C f) : SndS C 12 (fnSc (stIn 29 15)) ((["self", "cell"] : List Str) ++ (["tag"] : List Str)) (fnB (stIn 29 15)) d_ce_width := by
 have S := S_ce_width
 unfold d_ce_width
 refine .cons ?_ ?_
 refine .assign S 2 rfl (fun _ => rfl) ?_
 refine .item (fun _ _ => rfl) ?_ ?_
 exact .var S 1 rfl
 exact .cint
 refine .cons ?_ ?_
 refine .if_ ?_ ?_ ?_
 refine .cmp rfl ?_ ?_
 exact .var S 2 rfl
 exact .globI S 0 rfl (P.con 7)
 refine .cons ?_ ?_
 refine .ret ?_
 exact .cint
 exact .nil
 exact .nil
 refine .cons ?_ ?_
 refine .if_ ?_ ?_ ?_
 refine .cmp rfl ?_ ?_
 exact .var S 2 rfl
 exact .globI S 1 rfl (P.con 6)
 refine .cons ?_ ?_
 refine .ret ?_
 refine .meth (c := 0) (by decide) (fun _ _ => rfl) (by decide) rfl (P.m 7) (P.isf 8) (by decide +kernel) (P.kf 8) (snd_sy_arity P) (by decide) ?_ ?_
 refine .attr 5 rfl (by decide) (fun _ _ => rfl) ?_
 exact .var S 0 rfl
 refine .cons (SR rfl) ?_ ?_
 refine .item (fun _ _ => rfl) ?_ ?_
 refine .item (fun _ _ => rfl) ?_ ?_
 refine .attr 7 rfl (by decide) (fun _ _ => rfl) ?_
 exact .var S 0 rfl
 refine .item (fun _ _ => rfl) ?_ ?_
 exact .var S 1 rfl
 exact .cint
 exact .cint
 exact .nil
 exact .nil
 exact .nil
 refine .cons ?_ ?_
 refine .ret ?_
 exact .cint
 exact .nil
theorem snd_ce_width (P : PC C f) : FnSnd C 13 (.ref (f 20)) sp_ce_width := by
 unfold sp_ce_width
 refine FnSnd.of_body (n := 12) (gn := (["LIS", "STR"] : List Str)) (["self", "cell"] : List Str) (["tag"] : List Str) 2 [] P.lim (P.fn 20) S_ce_width ?_ ?_ ?_ ?_ ?_
 exact rfl
 exact bod_ce_width P
 decide +kernel
 exact rfl
 exact rfl
theorem S_ce_base : FnS (fnSc (stIn 29 16)) ((["self", "cell"] : List Str) ++ ([] : List Str)) (["LIS"] : List Str) := ⟨rfl, by decide +kernel, by decide +kernel, by decide +kernel, by decide +kernel⟩
theorem bod_ce_base (P : PC C f) : SndS C 10 (fnSc (stIn 29 16)) ((["self", "cell"] : List Str) ++ ([] : List Str)) (fnB (stIn 29 16)) d_ce_base := by
 have S := S_ce_base
 unfold d_ce_base
 refine .cons ?_ ?_
 refine .if_ ?_ ?_ ?_
 refine .cmp rfl ?_ ?_
 refine .item (fun _ _ => rfl) ?_ ?_
 exact .var S 1 rfl
 exact .cint
 exact .globI S 0 rfl (P.con 7)
 refine .cons ?_ ?_
 refine .ret ?_
 refine .item (fun _ _ => rfl) ?_ ?_
 exact .var S 1 rfl
 exact .cint
 exact .nil
 exact .nil
 refine .cons ?_ ?_
 refine .ret ?_
 refine .bin ?_ ?_
 refine .item (fun _ _ => rfl) ?_ ?_
 exact .var S 1 rfl
 exact .cint
 exact .cint
 exact .nil
theorem snd_ce_base (P : PC C f) : FnSnd C 11 (.ref (f 21)) sp_ce_base := by
 unfold sp_ce_base
 refine FnSnd.of_body (n := 10) (gn := (["LIS"] : List Str)) (["self", "cell"] : List Str) ([] : List Str) 2 [] P.lim (P.fn 21) S_ce_base ?_ ?_ ?_ ?_ ?_
 exact rfl
 exact bod_ce_base P
 decide +kernel
 exact rfl
 exact rfl
theorem S_ce_new_block : FnS (fnSc (stIn 29 18)) ((["self", "f"] : List Str) ++ (["start"] : List Str)) (["F_DOT", "LIS", "FUN", "STR"] : List Str) := ⟨rfl, by decide +kernel, by decide +kernel, by decide +kernel, by decide +kernel⟩
theorem bod_ce_new_block (P : PC C f) : SndS C 19 (fnSc (stIn 29 18)) ((["self", "f"] : List Str) ++ (["start"] : List Str)) (fnB (stIn 29 18)) d_ce_new_block := by
 have S := S_ce_new_block
 unfold d_ce_new_block
 refine .cons ?_ ?_
 refine .if_ ?_ ?_ ?_
 refine .cmp rfl ?_ ?_
 exact .var S 1 rfl
 exact .globI S 0 rfl (P.con 2)
 refine .cons ?_ ?_
 refine .ret ?_
 refine .tup ?_
 refine .cons (SR rfl) ?_ ?_
 exact .globI S 1 rfl (P.con 7)
 refine .cons (SR rfl) ?_ ?_
 refine .meth (c := 2) (by decide) (fun _ _ => rfl) (by decide) rfl (P.m 8) (P.isf 15) (by decide +kernel) (P.kf 15) (snd_ce_reserve P) (by decide) ?_ ?_
 exact .var S 0 rfl
 refine .cons (SR rfl) ?_ ?_
 exact .cint
 exact .nil
 exact .nil
 exact .nil
 exact .nil
 refine .cons ?_ ?_
 refine .assign S 2 rfl (fun _ => rfl) ?_
 refine .meth (c := 2) (by decide) (fun _ _ => rfl) (by decide) rfl (P.m 8) (P.isf 15) (by decide +kernel) (P.kf 15) (snd_ce_reserve P) (by decide) ?_ ?_
 exact .var S 0 rfl
 refine .cons (SR rfl) ?_ ?_
 refine .bin ?_ ?_
 exact .cint
 refine .meth (c := 0) (by decide) (fun _ _ => rfl) (by decide) rfl (P.m 7) (P.isf 8) (by decide +kernel) (P.kf 8) (snd_sy_arity P) (by decide) ?_ ?_
 refine .attr 5 rfl (by decide) (fun _ _ => rfl) ?_
 exact .var S 0 rfl
 refine .cons (SR rfl) ?_ ?_
 exact .var S 1 rfl
 exact .nil
 exact .nil
 refine .cons ?_ ?_
 refine .setItem (fun _ => rfl) ?_ ?_ ?_
 refine .tup ?_
 refine .cons (SR rfl) ?_ ?_
 exact .globI S 2 rfl (P.con 10)
 refine .cons (SR rfl) ?_ ?_
 exact .var S 1 rfl
 exact .nil
 refine .attr 7 rfl (by decide) (fun _ _ => rfl) ?_
 exact .var S 0 rfl
 exact .var S 2 rfl
 refine .cons ?_ ?_
 refine .ret ?_
 refine .tup ?_
 refine .cons (SR rfl) ?_ ?_
 exact .globI S 3 rfl (P.con 6)
 refine .cons (SR rfl) ?_ ?_
 exact .var S 2 rfl
 exact .nil
 exact .nil
theorem snd_ce_new_block (P : PC C f) : FnSnd C 20 (.ref (f 22)) sp_ce_new_block := by
 unfold sp_ce_new_block
 refine FnSnd.of_body (n := 19) (gn := (["F_DOT", "LIS", "FUN", "STR"] : List Str)) (["self", "f"] : List Str) (["start"] : List Str) 2 [] P.lim (P.fn 22) S_ce_new_block ?_ ?_ ?_ ?_ ?_
 exact rfl
 exact bod_ce_new_block P
 decide +kernel
 exact rfl
 exact rfl
theorem S_st_new_struct : FnS (fnSc (stIn 30 0)) ((["self", "f", "cells"] : List Str) ++ (["values", "cell", "made", "place", "value"] : List Str)) (["len", "CON"] : List Str) := ⟨rfl, by decide +kernel, by decide +kernel, by decide +kernel, by decide +kernel⟩
theorem bod_st_new_struct (P : PC C f) : SndS C 21 (fnSc (stIn 30 0)) ((["self", "f", "cells"] : List Str) ++ (["values", "cell", "made", "place", "value"] : List Str)) (fnB (stIn 30 0)) d_st_new_struct := by
 have S := S_st_new_struct
 unfold d_st_new_struct
 refine .cons ?_ ?_
 refine .if_ ?_ ?_ ?_
 refine .cmp rfl ?_ ?_
 refine .callBi (bi := "len") S 0 rfl (P.non 0) rfl (by decide) bi_len ?_
 refine .cons (SR rfl) ?_ ?_
 exact .var S 2 rfl
 exact .nil
 exact .cint
 refine .cons ?_ ?_
 refine .ret ?_
 refine .tup ?_
 refine .cons (SR rfl) ?_ ?_
 exact .globI S 1 rfl (P.con 8)
 refine .cons (SR rfl) ?_ ?_
 refine .meth (c := 0) (by decide) (fun _ _ => rfl) (by decide) rfl (P.m 6) (P.isf 7) (by decide +kernel) (P.kf 7) (snd_sy_name P) (by decide) ?_ ?_
 refine .attr 5 rfl (by decide) (fun _ _ => rfl) ?_
 exact .var S 0 rfl
 refine .cons (SR rfl) ?_ ?_
 exact .var S 1 rfl
 exact .nil
 exact .nil
 exact .nil
 exact .nil
 refine .cons ?_ ?_
 refine .assign S 3 rfl (fun _ => rfl) ?_
 refine .list ?_
 exact .nil
 refine .cons ?_ ?_
 refine .for_ (by decide) TgtName.name (fun _ _ => rfl) (gName_chk 4) ?_ ?_ ?_
 exact .var S 2 rfl
 exact .name S 4 rfl
 refine .cons ?_ ?_
 refine .expr S (fun _ => rfl) ?_
 refine .methB .list (fun _ _ => rfl) (by decide) rfl PySem.F.plainAttrs_list PySem.F.slot_list_append PySem.F.type_list_append bi_append ?_ ?_
 exact .var S 3 rfl
 refine .cons (SR rfl) ?_ ?_
 refine .meth (c := 2) (by decide) (fun _ _ => rfl) (by decide) rfl (P.m 10) (P.isf 17) (by decide +kernel) (P.kf 17) (snd_ce_globalise P) (by decide) ?_ ?_
 exact .var S 0 rfl
 refine .cons (SR rfl) ?_ ?_
 exact .var S 4 rfl
 exact .nil
 exact .nil
 exact .nil
 refine .cons ?_ ?_
 refine .assign S 5 rfl (fun _ => rfl) ?_
 refine .meth (c := 2) (by decide) (fun _ _ => rfl) (by decide) rfl (P.m 15) (P.isf 22) (by decide +kernel) (P.kf 22) (snd_ce_new_block P) (by decide) ?_ ?_
 exact .var S 0 rfl
 refine .cons (SR rfl) ?_ ?_
 exact .var S 1 rfl
 exact .nil
 refine .cons ?_ ?_
 refine .assign S 6 rfl (fun _ => rfl) ?_
 refine .meth (c := 2) (by decide) (fun _ _ => rfl) (by decide) rfl (P.m 14) (P.isf 21) (by decide +kernel) (P.kf 21) (snd_ce_base P) (by decide) ?_ ?_
 exact .var S 0 rfl
 refine .cons (SR rfl) ?_ ?_
 exact .var S 5 rfl
 exact .nil
 refine .cons ?_ ?_
 refine .for_ (by decide) TgtName.name (fun _ _ => rfl) (gName_chk 7) ?_ ?_ ?_
 exact .var S 3 rfl
 exact .name S 7 rfl
 refine .cons ?_ ?_
 refine .setItem (fun _ => rfl) ?_ ?_ ?_
 exact .var S 7 rfl
 refine .attr 7 rfl (by decide) (fun _ _ => rfl) ?_
 exact .var S 0 rfl
 exact .var S 6 rfl
 refine .cons ?_ ?_
 refine .aug S 6 rfl ?_
 exact .cint
 exact .nil
 refine .cons ?_ ?_
 refine .ret ?_
 exact .var S 5 rfl
 exact .nil
theorem snd_st_new_struct (P : PC C f) : FnSnd C 22 (.ref (f 23)) sp_st_new_struct := by
 unfold sp_st_new_struct
 refine FnSnd.of_body (n := 21) (gn := (["len", "CON"] : List Str)) (["self", "f", "cells"] : List Str) (["values", "cell", "made", "place", "value"] : List Str) 3 [] P.lim (P.fn 23) S_st_new_struct ?_ ?_ ?_ ?_ ?_
 exact rfl
 exact bod_st_new_struct P
 decide +kernel
 exact rfl
 exact rfl
theorem S_st_build_list : FnS (fnSc (stIn 30 1)) ((["self", "cells", "tail"] : List Str) ++ (["end", "values", "cell", "start", "place", "value"] : List Str)) (["CON", "A_NIL", "len", "LIS"] : List Str) := ⟨rfl, by decide +kernel, by decide +kernel, by decide +kernel, by decide +kernel⟩
theorem bod_st_build_list (P : PC C f) : SndS C 21 (fnSc (stIn 30 1)) ((["self", "cells", "tail"] : List Str) ++ (["end", "values", "cell", "start", "place", "value"] : List Str)) (fnB (stIn 30 1)) d_st_build_list := by
 have S := S_st_build_list
 unfold d_st_build_list
 refine .cons ?_ ?_
 refine .if_ ?_ ?_ ?_
 refine .cmp rfl ?_ ?_
 exact .var S 2 rfl
 exact .cnone
 refine .cons ?_ ?_
 refine .assign S 3 rfl (fun _ => rfl) ?_
 refine .tup ?_
 refine .cons (SR rfl) ?_ ?_
 exact .globI S 0 rfl (P.con 8)
 refine .cons (SR rfl) ?_ ?_
 exact .globI S 1 rfl (P.con 0)
 exact .nil
 exact .nil
 refine .cons ?_ ?_
 refine .assign S 3 rfl (fun _ => rfl) ?_
 refine .meth (c := 2) (by decide) (fun _ _ => rfl) (by decide) rfl (P.m 10) (P.isf 17) (by decide +kernel) (P.kf 17) (snd_ce_globalise P) (by decide) ?_ ?_
 exact .var S 0 rfl
 refine .cons (SR rfl) ?_ ?_
 exact .var S 2 rfl
 exact .nil
 exact .nil
 refine .cons ?_ ?_
 refine .assign S 4 rfl (fun _ => rfl) ?_
 refine .list ?_
 exact .nil
 refine .cons ?_ ?_
 refine .for_ (by decide) TgtName.name (fun _ _ => rfl) (gName_chk 5) ?_ ?_ ?_
 exact .var S 1 rfl
 exact .name S 5 rfl
 refine .cons ?_ ?_
 refine .expr S (fun _ => rfl) ?_
 refine .methB .list (fun _ _ => rfl) (by decide) rfl PySem.F.plainAttrs_list PySem.F.slot_list_append PySem.F.type_list_append bi_append ?_ ?_
 exact .var S 4 rfl
 refine .cons (SR rfl) ?_ ?_
 refine .meth (c := 2) (by decide) (fun _ _ => rfl) (by decide) rfl (P.m 10) (P.isf 17) (by decide +kernel) (P.kf 17) (snd_ce_globalise P) (by decide) ?_ ?_
 exact .var S 0 rfl
 refine .cons (SR rfl) ?_ ?_
 exact .var S 5 rfl
 exact .nil
 exact .nil
 exact .nil
 refine .cons ?_ ?_
 refine .if_ ?_ ?_ ?_
 refine .cmp rfl ?_ ?_
 refine .callBi (bi := "len") S 2 rfl (P.non 0) rfl (by decide) bi_len ?_
 refine .cons (SR rfl) ?_ ?_
 exact .var S 4 rfl
 exact .nil
 exact .cint
 refine .cons ?_ ?_
 refine .ret ?_
 exact .var S 3 rfl
 exact .nil
 exact .nil
 refine .cons ?_ ?_
 refine .assign S 6 rfl (fun _ => rfl) ?_
 refine .meth (c := 2) (by decide) (fun _ _ => rfl) (by decide) rfl (P.m 8) (P.isf 15) (by decide +kernel) (P.kf 15) (snd_ce_reserve P) (by decide) ?_ ?_
 exact .var S 0 rfl
 refine .cons (SR rfl) ?_ ?_
 refine .bin ?_ ?_
 exact .cint
 refine .callBi (bi := "len") S 2 rfl (P.non 0) rfl (by decide) bi_len ?_
 refine .cons (SR rfl) ?_ ?_
 exact .var S 4 rfl
 exact .nil
 exact .nil
 refine .cons ?_ ?_
 refine .assign S 7 rfl (fun _ => rfl) ?_
 exact .var S 6 rfl
 refine .cons ?_ ?_
 refine .for_ (by decide) TgtName.name (fun _ _ => rfl) (gName_chk 8) ?_ ?_ ?_
 exact .var S 4 rfl
 exact .name S 8 rfl
 refine .cons ?_ ?_
 refine .setItem (fun _ => rfl) ?_ ?_ ?_
 exact .var S 8 rfl
 refine .attr 7 rfl (by decide) (fun _ _ => rfl) ?_
 exact .var S 0 rfl
 exact .var S 7 rfl
 refine .cons ?_ ?_
 refine .setItem (fun _ => rfl) ?_ ?_ ?_
 refine .tup ?_
 refine .cons (SR rfl) ?_ ?_
 exact .globI S 3 rfl (P.con 7)
 refine .cons (SR rfl) ?_ ?_
 refine .bin ?_ ?_
 exact .var S 7 rfl
 exact .cint
 exact .nil
 refine .attr 7 rfl (by decide) (fun _ _ => rfl) ?_
 exact .var S 0 rfl
 refine .bin ?_ ?_
 exact .var S 7 rfl
 exact .cint
 refine .cons ?_ ?_
 refine .aug S 7 rfl ?_
 exact .cint
 exact .nil
 refine .cons ?_ ?_
 refine .setItem (fun _ => rfl) ?_ ?_ ?_
 exact .var S 3 rfl
 refine .attr 7 rfl (by decide) (fun _ _ => rfl) ?_
 exact .var S 0 rfl
 refine .bin ?_ ?_
 exact .var S 7 rfl
 exact .cint
 refine .cons ?_ ?_
 refine .ret ?_
 refine .tup ?_
 refine .cons (SR rfl) ?_ ?_
 exact .globI S 3 rfl (P.con 7)
 refine .cons (SR rfl) ?_ ?_
 exact .var S 6 rfl
 exact .nil
 exact .nil
theorem snd_st_build_list (P : PC C f) : FnSnd C 22 (.ref (f 24)) sp_st_build_list := by
 unfold sp_st_build_list
 refine FnSnd.of_body (n := 21) (gn := (["CON", "A_NIL", "len", "LIS"] : List Str)) (["self", "cells", "tail"] : List Str) (["end", "values", "cell", "start", "place", "value"] : List Str) 2 [AV.none] P.lim (P.fn 24) S_st_build_list ?_ ?_ ?_ ?_ ?_
 exact rfl
 exact bod_st_build_list P
 decide +kernel
 exact rfl
 exact rfl
theorem S_st_whole_size : FnS (fnSc (stIn 30 4)) ((["self", "cell", "sizes"] : List Str) ++ (["size", "place", "step", "part"] : List Str)) (["range"] : List Str) := ⟨rfl, by decide +kernel, by decide +kernel, by decide +kernel, by decide +kernel⟩
theorem bod_st_whole_size (P : PC C f) : SndS C 14 (fnSc (stIn 30 4)) ((["self", "cell", "sizes"] : List Str) ++ (["size", "place", "step", "part"] : List Str)) (fnB (stIn 30 4)) d_st_whole_size := by
 have S := S_st_whole_size
 unfold d_st_whole_size
 refine .cons ?_ ?_
 refine .assign S 3 rfl (fun _ => rfl) ?_
 exact .cint
 refine .cons ?_ ?_
 refine .assign S 4 rfl (fun _ => rfl) ?_
 refine .meth (c := 2) (by decide) (fun _ _ => rfl) (by decide) rfl (P.m 14) (P.isf 21) (by decide +kernel) (P.kf 21) (snd_ce_base P) (by decide) ?_ ?_
 exact .var S 0 rfl
 refine .cons (SR rfl) ?_ ?_
 exact .var S 1 rfl
 exact .nil
 refine .cons ?_ ?_
 refine .forR (by decide) S 0 rfl (P.non 9) TgtName.name (gName_chk 5) ?_ ?_ ?_
 refine .cons (SR rfl) ?_ ?_
 refine .meth (c := 2) (by decide) (fun _ _ => rfl) (by decide) rfl (P.m 13) (P.isf 20) (by decide +kernel) (P.kf 20) (snd_ce_width P) (by decide) ?_ ?_
 exact .var S 0 rfl
 refine .cons (SR rfl) ?_ ?_
 exact .var S 1 rfl
 exact .nil
 exact .nil
 exact .name S 5 rfl
 refine .cons ?_ ?_
 refine .assign S 6 rfl (fun _ => rfl) ?_
 refine .meth (c := 2) (by decide) (fun _ _ => rfl) (by decide) rfl (P.m 9) (P.isf 16) (by decide +kernel) (P.kf 16) (snd_ce_deref P) (by decide) ?_ ?_
 exact .var S 0 rfl
 refine .cons (SR rfl) ?_ ?_
 refine .item (fun _ _ => rfl) ?_ ?_
 refine .attr 7 rfl (by decide) (fun _ _ => rfl) ?_
 exact .var S 0 rfl
 refine .bin ?_ ?_
 exact .var S 4 rfl
 exact .var S 5 rfl
 exact .nil
 refine .cons ?_ ?_
 refine .if_ ?_ ?_ ?_
 refine .val ?_ (fun _ _ => rfl)
 refine .meth (c := 2) (by decide) (fun _ _ => rfl) (by decide) rfl (P.m 11) (P.isf 18) (by decide +kernel) (P.kf 18) (snd_ce_is_compound P) (by decide) ?_ ?_
 exact .var S 0 rfl
 refine .cons (SR rfl) ?_ ?_
 exact .var S 6 rfl
 exact .nil
 refine .cons ?_ ?_
 refine .aug S 3 rfl ?_
 refine .item (fun _ _ => rfl) ?_ ?_
 exact .var S 2 rfl
 refine .item (fun _ _ => rfl) ?_ ?_
 exact .var S 6 rfl
 exact .cint
 exact .nil
 refine .cons ?_ ?_
 refine .aug S 3 rfl ?_
 exact .cint
 exact .nil
 exact .nil
 refine .cons ?_ ?_
 refine .ret ?_
 exact .var S 3 rfl
 exact .nil
theorem snd_st_whole_size (P : PC C f) : FnSnd C 15 (.ref (f 25)) sp_st_whole_size := by
 unfold sp_st_whole_size
 refine FnSnd.of_body (n := 14) (gn := (["range"] : List Str)) (["self", "cell", "sizes"] : List Str) (["size", "place", "step", "part"] : List Str) 3 [] P.lim (P.fn 25) S_st_whole_size ?_ ?_ ?_ ?_ ?_
 exact rfl
 exact bod_st_whole_size P
 decide +kernel
 exact rfl
 exact rfl
theorem S_st_take_term : FnS (fnSc (stIn 30 5)) ((["self", "cell", "table"] : List Str) ++ (["known", "sizes", "results", "work", "what", "f", "first", "term", "tag", "place", "step"] : List Str)) (["VISIT", "len", "BUILD", "tuple", "REF", "CON", "INT", "range"] : List Str) := ⟨rfl, by decide +kernel, by decide +kernel, by decide +kernel, by decide +kernel⟩
theorem bod_st_take_term (P : PC C f) : SndS C 23 (fnSc (stIn 30 5)) ((["self", "cell", "table"] : List Str) ++ (["known", "sizes", "results", "work", "what", "f", "first", "term", "tag", "place", "step"] : List Str)) (fnB (stIn 30 5)) d_st_take_term := by
 have S := S_st_take_term
 unfold d_st_take_term
 refine .cons ?_ ?_
 refine .assign S 3 rfl (fun _ => rfl) ?_
 exact .dictI
 refine .cons ?_ ?_
 refine .assign S 4 rfl (fun _ => rfl) ?_
 exact .dictI
 refine .cons ?_ ?_
 refine .assign S 5 rfl (fun _ => rfl) ?_
 refine .list ?_
 exact .nil
 refine .cons ?_ ?_
 refine .assign S 6 rfl (fun _ => rfl) ?_
 refine .list ?_
 refine .cons (SR rfl) ?_ ?_
 refine .tup ?_
 refine .cons (SR rfl) ?_ ?_
 exact .globI S 0 rfl (P.con 11)
 refine .cons (SR rfl) ?_ ?_
 refine .meth (c := 2) (by decide) (fun _ _ => rfl) (by decide) rfl (P.m 10) (P.isf 17) (by decide +kernel) (P.kf 17) (snd_ce_globalise P) (by decide) ?_ ?_
 exact .var S 0 rfl
 refine .cons (SR rfl) ?_ ?_
 exact .var S 1 rfl
 exact .nil
 exact .nil
 exact .nil
 refine .cons ?_ ?_
 refine .while_ fuel ?_ ?_
 refine .cmp rfl ?_ ?_
 refine .callBi (bi := "len") S 1 rfl (P.non 0) rfl (by decide) bi_len ?_
 refine .cons (SR rfl) ?_ ?_
 exact .var S 6 rfl
 exact .nil
 exact .cint
 refine .cons ?_ ?_
 refine .assignTup (fun _ => rfl) (fun _ => rfl) ?_ ?_
 refine .methB .list (fun _ _ => rfl) (by decide) rfl PySem.F.plainAttrs_list PySem.F.slot_list_pop PySem.F.type_list_pop bi_pop ?_ ?_
 exact .var S 6 rfl
 exact .nil
 refine .tup2 (by decide) (fun _ => rfl) ?_ ?_
 exact .name S 7 rfl
 exact .name S 1 rfl
 refine .cons ?_ ?_
 refine .if_ ?_ ?_ ?_
 refine .cmp rfl ?_ ?_
 exact .var S 7 rfl
 exact .globI S 2 rfl (P.con 12)
 refine .cons ?_ ?_
 refine .assign S 8 rfl (fun _ => rfl) ?_
 refine .meth (c := 2) (by decide) (fun _ _ => rfl) (by decide) rfl (P.m 12) (P.isf 19) (by decide +kernel) (P.kf 19) (snd_ce_functor_of P) (by decide) ?_ ?_
 exact .var S 0 rfl
 refine .cons (SR rfl) ?_ ?_
 exact .var S 1 rfl
 exact .nil
 refine .cons ?_ ?_
 refine .assign S 9 rfl (fun _ => rfl) ?_
 refine .bin ?_ ?_
 refine .callBi (bi := "len") S 1 rfl (P.non 0) rfl (by decide) bi_len ?_
 refine .cons (SR rfl) ?_ ?_
 exact .var S 5 rfl
 exact .nil
 refine .meth (c := 2) (by decide) (fun _ _ => rfl) (by decide) rfl (P.m 13) (P.isf 20) (by decide +kernel) (P.kf 20) (snd_ce_width P) (by decide) ?_ ?_
 exact .var S 0 rfl
 refine .cons (SR rfl) ?_ ?_
 exact .var S 1 rfl
 exact .nil
 refine .cons ?_ ?_
 refine .assign S 10 rfl (fun _ => rfl) ?_
 refine .tup ?_
 refine .cons (SR rfl) ?_ ?_
 exact .cstr (by decide +kernel)
 refine .cons (SR rfl) ?_ ?_
 exact .var S 8 rfl
 refine .cons (SR rfl) ?_ ?_
 refine .callTuple S 3 rfl (P.non 6) ?_
 refine .cons (SR rfl) ?_ ?_
 refine .slice (fun _ _ => ⟨_, rfl⟩) (fun _ _ => rfl) ?_ ?_ ?_ ?_
 exact .var S 5 rfl
 refine .some ?_
 exact .var S 9 rfl
 exact .none
 exact .none
 exact .nil
 exact .nil
 refine .cons ?_ ?_
 refine .delFrom ?_ ?_
 exact .var S 5 rfl
 exact .var S 9 rfl
 refine .cons ?_ ?_
 refine .setItem (fun _ => rfl) ?_ ?_ ?_
 exact .var S 10 rfl
 exact .var S 3 rfl
 refine .item (fun _ _ => rfl) ?_ ?_
 exact .var S 1 rfl
 exact .cint
 refine .cons ?_ ?_
 refine .setItem (fun _ => rfl) ?_ ?_ ?_
 refine .meth (c := 2) (by decide) (fun _ _ => rfl) (by decide) rfl (P.m 18) (P.isf 25) (by decide +kernel) (P.kf 25) (snd_st_whole_size P) (by decide) ?_ ?_
 exact .var S 0 rfl
 refine .cons (SR rfl) ?_ ?_
 exact .var S 1 rfl
 refine .cons (SR rfl) ?_ ?_
 exact .var S 4 rfl
 exact .nil
 exact .var S 4 rfl
 refine .item (fun _ _ => rfl) ?_ ?_
 exact .var S 1 rfl
 exact .cint
 refine .cons ?_ ?_
 refine .if_ ?_ ?_ ?_
 refine .cmp rfl ?_ ?_
 refine .item (fun _ _ => rfl) ?_ ?_
 exact .var S 4 rfl
 refine .item (fun _ _ => rfl) ?_ ?_
 exact .var S 1 rfl
 exact .cint
 refine .bin ?_ ?_
 refine .attr 6 rfl (by decide) (fun _ _ => rfl) ?_
 exact .var S 0 rfl
 exact .cint
 refine .cons ?_ ?_
 exact .stuck
 exact .nil
 exact .nil
 refine .cons ?_ ?_
 refine .expr S (fun _ => rfl) ?_
 refine .methB .list (fun _ _ => rfl) (by decide) rfl PySem.F.plainAttrs_list PySem.F.slot_list_append PySem.F.type_list_append bi_append ?_ ?_
 exact .var S 5 rfl
 refine .cons (SR rfl) ?_ ?_
 exact .var S 10 rfl
 exact .nil
 refine .cons ?_ ?_
 exact .cont
 exact .nil
 exact .nil
 refine .cons ?_ ?_
 refine .assign S 1 rfl (fun _ => rfl) ?_
 refine .meth (c := 2) (by decide) (fun _ _ => rfl) (by decide) rfl (P.m 9) (P.isf 16) (by decide +kernel) (P.kf 16) (snd_ce_deref P) (by decide) ?_ ?_
 exact .var S 0 rfl
 refine .cons (SR rfl) ?_ ?_
 exact .var S 1 rfl
 exact .nil
 refine .cons ?_ ?_
 refine .assign S 11 rfl (fun _ => rfl) ?_
 refine .item (fun _ _ => rfl) ?_ ?_
 exact .var S 1 rfl
 exact .cint
 refine .cons ?_ ?_
 refine .if_ ?_ ?_ ?_
 refine .cmp rfl ?_ ?_
 exact .var S 11 rfl
 exact .globI S 4 rfl (P.con 4)
 refine .cons ?_ ?_
 refine .if_ ?_ ?_ ?_
 refine .cmp rfl ?_ ?_
 refine .item (fun _ _ => rfl) ?_ ?_
 exact .var S 1 rfl
 exact .cint
 exact .var S 2 rfl
 exact .stuck
 exact .nil
 refine .cons ?_ ?_
 refine .expr S (fun _ => rfl) ?_
 refine .methB .list (fun _ _ => rfl) (by decide) rfl PySem.F.plainAttrs_list PySem.F.slot_list_append PySem.F.type_list_append bi_append ?_ ?_
 exact .var S 5 rfl
 refine .cons (SR rfl) ?_ ?_
 refine .tup ?_
 refine .cons (SR rfl) ?_ ?_
 exact .cstr (by decide +kernel)
 refine .cons (SR rfl) ?_ ?_
 refine .item (fun _ _ => rfl) ?_ ?_
 exact .var S 2 rfl
 refine .item (fun _ _ => rfl) ?_ ?_
 exact .var S 1 rfl
 exact .cint
 exact .nil
 exact .nil
 exact .nil
 refine .cons ?_ ?_
 refine .if_ ?_ ?_ ?_
 refine .cmp rfl ?_ ?_
 exact .var S 11 rfl
 exact .globI S 5 rfl (P.con 8)
 refine .cons ?_ ?_
 refine .expr S (fun _ => rfl) ?_
 refine .methB .list (fun _ _ => rfl) (by decide) rfl PySem.F.plainAttrs_list PySem.F.slot_list_append PySem.F.type_list_append bi_append ?_ ?_
 exact .var S 5 rfl
 refine .cons (SR rfl) ?_ ?_
 refine .tup ?_
 refine .cons (SR rfl) ?_ ?_
 exact .cstr (by decide +kernel)
 refine .cons (SR rfl) ?_ ?_
 refine .item (fun _ _ => rfl) ?_ ?_
 exact .var S 1 rfl
 exact .cint
 exact .nil
 exact .nil
 exact .nil
 refine .cons ?_ ?_
 refine .if_ ?_ ?_ ?_
 refine .cmp rfl ?_ ?_
 exact .var S 11 rfl
 exact .globI S 6 rfl (P.con 9)
 refine .cons ?_ ?_
 refine .expr S (fun _ => rfl) ?_
 refine .methB .list (fun _ _ => rfl) (by decide) rfl PySem.F.plainAttrs_list PySem.F.slot_list_append PySem.F.type_list_append bi_append ?_ ?_
 exact .var S 5 rfl
 refine .cons (SR rfl) ?_ ?_
 refine .tup ?_
 refine .cons (SR rfl) ?_ ?_
 exact .cstr (by decide +kernel)
 refine .cons (SR rfl) ?_ ?_
 refine .item (fun _ _ => rfl) ?_ ?_
 exact .var S 1 rfl
 exact .cint
 exact .nil
 exact .nil
 exact .nil
 refine .cons ?_ ?_
 refine .if_ ?_ ?_ ?_
 refine .cmp rfl ?_ ?_
 refine .item (fun _ _ => rfl) ?_ ?_
 exact .var S 1 rfl
 exact .cint
 exact .var S 3 rfl
 refine .cons ?_ ?_
 refine .assign S 10 rfl (fun _ => rfl) ?_
 refine .item (fun _ _ => rfl) ?_ ?_
 exact .var S 3 rfl
 refine .item (fun _ _ => rfl) ?_ ?_
 exact .var S 1 rfl
 exact .cint
 refine .cons ?_ ?_
 refine .if_ ?_ ?_ ?_
 refine .cmp rfl ?_ ?_
 exact .var S 10 rfl
 exact .cnone
 refine .cons ?_ ?_
 exact .stuck
 exact .nil
 exact .nil
 refine .cons ?_ ?_
 refine .expr S (fun _ => rfl) ?_
 refine .methB .list (fun _ _ => rfl) (by decide) rfl PySem.F.plainAttrs_list PySem.F.slot_list_append PySem.F.type_list_append bi_append ?_ ?_
 exact .var S 5 rfl
 refine .cons (SR rfl) ?_ ?_
 exact .var S 10 rfl
 exact .nil
 exact .nil
 refine .cons ?_ ?_
 refine .setItem (fun _ => rfl) ?_ ?_ ?_
 exact .cnone
 exact .var S 3 rfl
 refine .item (fun _ _ => rfl) ?_ ?_
 exact .var S 1 rfl
 exact .cint
 refine .cons ?_ ?_
 refine .expr S (fun _ => rfl) ?_
 refine .methB .list (fun _ _ => rfl) (by decide) rfl PySem.F.plainAttrs_list PySem.F.slot_list_append PySem.F.type_list_append bi_append ?_ ?_
 exact .var S 6 rfl
 refine .cons (SR rfl) ?_ ?_
 refine .tup ?_
 refine .cons (SR rfl) ?_ ?_
 exact .globI S 2 rfl (P.con 12)
 refine .cons (SR rfl) ?_ ?_
 exact .var S 1 rfl
 exact .nil
 exact .nil
 refine .cons ?_ ?_
 refine .assign S 12 rfl (fun _ => rfl) ?_
 refine .meth (c := 2) (by decide) (fun _ _ => rfl) (by decide) rfl (P.m 14) (P.isf 21) (by decide +kernel) (P.kf 21) (snd_ce_base P) (by decide) ?_ ?_
 exact .var S 0 rfl
 refine .cons (SR rfl) ?_ ?_
 exact .var S 1 rfl
 exact .nil
 refine .cons ?_ ?_
 refine .forR (by decide) S 7 rfl (P.non 9) TgtName.name (gName_chk 13) ?_ ?_ ?_
 refine .cons (SR rfl) ?_ ?_
 refine .bin ?_ ?_
 refine .meth (c := 2) (by decide) (fun _ _ => rfl) (by decide) rfl (P.m 13) (P.isf 20) (by decide +kernel) (P.kf 20) (snd_ce_width P) (by decide) ?_ ?_
 exact .var S 0 rfl
 refine .cons (SR rfl) ?_ ?_
 exact .var S 1 rfl
 exact .nil
 exact .cint
 refine .cons (SR rfl) ?_ ?_
 refine .neg ?_
 exact .cint
 refine .cons (SR rfl) ?_ ?_
 refine .neg ?_
 exact .cint
 exact .nil
 exact .name S 13 rfl
 refine .cons ?_ ?_
 refine .expr S (fun _ => rfl) ?_
 refine .methB .list (fun _ _ => rfl) (by decide) rfl PySem.F.plainAttrs_list PySem.F.slot_list_append PySem.F.type_list_append bi_append ?_ ?_
 exact .var S 6 rfl
 refine .cons (SR rfl) ?_ ?_
 refine .tup ?_
 refine .cons (SR rfl) ?_ ?_
 exact .globI S 0 rfl (P.con 11)
 refine .cons (SR rfl) ?_ ?_
 refine .item (fun _ _ => rfl) ?_ ?_
 refine .attr 7 rfl (by decide) (fun _ _ => rfl) ?_
 exact .var S 0 rfl
 refine .bin ?_ ?_
 exact .var S 12 rfl
 exact .var S 13 rfl
 exact .nil
 exact .nil
 exact .nil
 exact .nil
 exact .nil
 exact .nil
 exact .nil
 exact .nil
 refine .cons ?_ ?_
 refine .ret ?_
 refine .item (fun _ _ => rfl) ?_ ?_
 exact .var S 5 rfl
 exact .cint
 exact .nil
theorem snd_st_take_term (P : PC C f) : FnSnd C 24 (.ref (f 26)) sp_st_take_term := by
 unfold sp_st_take_term
 refine FnSnd.of_body (n := 23) (gn := (["VISIT", "len", "BUILD", "tuple", "REF", "CON", "INT", "range"] : List Str)) (["self", "cell", "table"] : List Str) (["known", "sizes", "results", "work", "what", "f", "first", "term", "tag", "place", "step"] : List Str) 3 [] P.lim (P.fn 26) S_st_take_term ?_ ?_ ?_ ?_ ?_
 exact rfl
 exact bod_st_take_term P
 decide +kernel
 exact rfl
 exact rfl
theorem S_atom_cell : FnS (fnSc (stTop 34)) ((["m", "text"] : List Str) ++ ([] : List Str)) (["len", "CON"] : List Str) := ⟨rfl, by decide +kernel, by decide +kernel, by decide +kernel, by decide +kernel⟩
theorem bod_atom_cell (P : PC C f) : SndS C 17 (fnSc (stTop 34)) ((["m", "text"] : List Str) ++ ([] : List Str)) (fnB (stTop 34)) d_atom_cell := by
 have S := S_atom_cell
 unfold d_atom_cell
 refine .cons ?_ ?_
 refine .if_ ?_ ?_ ?_
 refine .cmp rfl ?_ ?_
 refine .callBi (bi := "len") S 0 rfl (P.non 0) rfl (by decide) bi_len ?_
 refine .cons (SR rfl) ?_ ?_
 exact .var S 1 rfl
 exact .nil
 refine .attr 6 rfl (by decide) (fun _ _ => rfl) ?_
 refine .attr 15 rfl (by decide) (fun _ _ => rfl) ?_
 exact .var S 0 rfl
 refine .cons ?_ ?_
 exact .stuck
 exact .nil
 exact .nil
 refine .cons ?_ ?_
 refine .ret ?_
 refine .tup ?_
 refine .cons (SR rfl) ?_ ?_
 exact .globI S 1 rfl (P.con 8)
 refine .cons (SR rfl) ?_ ?_
 refine .meth (c := 0) (by decide) (fun _ _ => rfl) (by decide) rfl (P.m 3) (P.isf 4) (by decide +kernel) (P.kf 4) (snd_sy_atom P) (by decide) ?_ ?_
 refine .attr 5 rfl (by decide) (fun _ _ => rfl) ?_
 exact .var S 0 rfl
 refine .cons (SR rfl) ?_ ?_
 exact .var S 1 rfl
 exact .nil
 exact .nil
 exact .nil
theorem snd_atom_cell (P : PC C f) : FnSnd C 18 (.ref (f 27)) sp_atom_cell := by
 unfold sp_atom_cell
 refine FnSnd.of_body (n := 17) (gn := (["len", "CON"] : List Str)) (["m", "text"] : List Str) ([] : List Str) 2 [] P.lim (P.fn 27) S_atom_cell ?_ ?_ ?_ ?_ ?_
 exact rfl
 exact bod_atom_cell P
 decide +kernel
 exact rfl
 exact rfl
theorem S_upper_text : FnS (fnSc (stTop 35)) ((["text"] : List Str) ++ (["chars", "char", "code"] : List Str)) (["ord", "is_small", "chr"] : List Str) := ⟨rfl, by decide +kernel, by decide +kernel, by decide +kernel, by decide +kernel⟩
theorem bod_upper_text (P : PC C f) : SndS C 12 (fnSc (stTop 35)) ((["text"] : List Str) ++ (["chars", "char", "code"] : List Str)) (fnB (stTop 35)) d_upper_text := by
 have S := S_upper_text
 unfold d_upper_text
 refine .cons ?_ ?_
 refine .assign S 1 rfl (fun _ => rfl) ?_
 refine .list ?_
 exact .nil
 refine .cons ?_ ?_
 refine .for_ (by decide) TgtName.name (fun _ _ => rfl) (gName_chk 2) ?_ ?_ ?_
 exact .var S 0 rfl
 exact .name S 2 rfl
 refine .cons ?_ ?_
 refine .assign S 3 rfl (fun _ => rfl) ?_
 refine .callBi (bi := "ord") S 0 rfl (P.non 4) rfl (by decide) bi_ord ?_
 refine .cons (SR rfl) ?_ ?_
 exact .var S 2 rfl
 exact .nil
 refine .cons ?_ ?_
 refine .if_ ?_ ?_ ?_
 refine .val ?_ (fun _ _ => rfl)
 refine .callFn S 1 rfl (P.gf 5) (.of_K (P.kf 12)) (snd_is_small P) (by decide) ?_
 refine .cons (SR rfl) ?_ ?_
 exact .var S 3 rfl
 exact .nil
 refine .cons ?_ ?_
 refine .expr S (fun _ => rfl) ?_
 refine .methB .list (fun _ _ => rfl) (by decide) rfl PySem.F.plainAttrs_list PySem.F.slot_list_append PySem.F.type_list_append bi_append ?_ ?_
 exact .var S 1 rfl
 refine .cons (SR rfl) ?_ ?_
 refine .callBi (bi := "chr") S 2 rfl (P.non 5) rfl (by decide) bi_chr ?_
 refine .cons (SR rfl) ?_ ?_
 refine .bin ?_ ?_
 exact .var S 3 rfl
 exact .cint
 exact .nil
 exact .nil
 exact .nil
 refine .cons ?_ ?_
 refine .expr S (fun _ => rfl) ?_
 refine .methB .list (fun _ _ => rfl) (by decide) rfl PySem.F.plainAttrs_list PySem.F.slot_list_append PySem.F.type_list_append bi_append ?_ ?_
 exact .var S 1 rfl
 refine .cons (SR rfl) ?_ ?_
 exact .var S 2 rfl
 exact .nil
 exact .nil
 exact .nil
 refine .cons ?_ ?_
 refine .ret ?_
 refine .methB .str (fun _ _ => rfl) (by decide) rfl PySem.F.plainAttrs_str PySem.F.slot_str_join PySem.F.type_str_join bi_join ?_ ?_
 exact .cstr (by decide +kernel)
 refine .cons (SR rfl) ?_ ?_
 exact .var S 1 rfl
 exact .nil
 exact .nil
theorem snd_upper_text (P : PC C f) : FnSnd C 13 (.ref (f 28)) sp_upper_text := by
 unfold sp_upper_text
 refine FnSnd.of_body (n := 12) (gn := (["ord", "is_small", "chr"] : List Str)) (["text"] : List Str) (["chars", "char", "code"] : List Str) 1 [] P.lim (P.fn 28) S_upper_text ?_ ?_ ?_ ?_ ?_
 exact rfl
 exact bod_upper_text P
 decide +kernel
 exact rfl
 exact rfl
theorem S_lower_text : FnS (fnSc (stTop 36)) ((["text"] : List Str) ++ (["chars", "char", "code"] : List Str)) (["ord", "is_capital", "chr"] : List Str) := ⟨rfl, by decide +kernel, by decide +kernel, by decide +kernel, by decide +kernel⟩
theorem bod_lower_text (P : PC C f) : SndS C 12 (fnSc (stTop 36)) ((["text"] : List Str) ++ (["chars", "char", "code"] : List Str)) (fnB (stTop 36)) d_lower_text := by
 have S := S_lower_text
 unfold d_lower_text
 refine .cons ?_ ?_
 refine .assign S 1 rfl (fun _ => rfl) ?_
 refine .list ?_
 exact .nil
 refine .cons ?_ ?_
 refine .for_ (by decide) TgtName.name (fun _ _ => rfl) (gName_chk 2) ?_ ?_ ?_
 exact .var S 0 rfl
 exact .name S 2 rfl
 refine .cons ?_ ?_
 refine .assign S 3 rfl (fun _ => rfl) ?_
 refine .callBi (bi := "ord") S 0 rfl (P.non 4) rfl (by decide) bi_ord ?_
 refine .cons (SR rfl) ?_ ?_
 exact .var S 2 rfl
 exact .nil
 refine .cons ?_ ?_
 refine .if_ ?_ ?_ ?_
 refine .val ?_ (fun _ _ => rfl)
 refine .callFn S 1 rfl (P.gf 6) (.of_K (P.kf 13)) (snd_is_capital P) (by decide) ?_
 refine .cons (SR rfl) ?_ ?_
 exact .var S 3 rfl
 exact .nil
 refine .cons ?_ ?_
 refine .expr S (fun _ => rfl) ?_
 refine .methB .list (fun _ _ => rfl) (by decide) rfl PySem.F.plainAttrs_list PySem.F.slot_list_append PySem.F.type_list_append bi_append ?_ ?_
 exact .var S 1 rfl
 refine .cons (SR rfl) ?_ ?_
 refine .callBi (bi := "chr") S 2 rfl (P.non 5) rfl (by decide) bi_chr ?_
 refine .cons (SR rfl) ?_ ?_
 refine .bin ?_ ?_
 exact .var S 3 rfl
 exact .cint
 exact .nil
 exact .nil
 exact .nil
 refine .cons ?_ ?_
 refine .expr S (fun _ => rfl) ?_
 refine .methB .list (fun _ _ => rfl) (by decide) rfl PySem.F.plainAttrs_list PySem.F.slot_list_append PySem.F.type_list_append bi_append ?_ ?_
 exact .var S 1 rfl
 refine .cons (SR rfl) ?_ ?_
 exact .var S 2 rfl
 exact .nil
 exact .nil
 exact .nil
 refine .cons ?_ ?_
 refine .ret ?_
 refine .methB .str (fun _ _ => rfl) (by decide) rfl PySem.F.plainAttrs_str PySem.F.slot_str_join PySem.F.type_str_join bi_join ?_ ?_
 exact .cstr (by decide +kernel)
 refine .cons (SR rfl) ?_ ?_
 exact .var S 1 rfl
 exact .nil
 exact .nil
theorem snd_lower_text (P : PC C f) : FnSnd C 13 (.ref (f 29)) sp_lower_text := by
 unfold sp_lower_text
 refine FnSnd.of_body (n := 12) (gn := (["ord", "is_capital", "chr"] : List Str)) (["text"] : List Str) (["chars", "char", "code"] : List Str) 1 [] P.lim (P.fn 29) S_lower_text ?_ ?_ ?_ ?_ ?_
 exact rfl
 exact bod_lower_text P
 decide +kernel
 exact rfl
 exact rfl
theorem S_spans : FnS (fnSc (stTop 37)) ((["length", "before", "size", "after"] : List Str) ++ (["first", "last", "found", "start", "rest", "least", "most", "width"] : List Str)) (["ANY", "min", "range", "max"] : List Str) := ⟨rfl, by decide +kernel, by decide +kernel, by decide +kernel, by decide +kernel⟩
theorem bod_spans (P : PC C f) : SndS C 12 (fnSc (stTop 37)) ((["length", "before", "size", "after"] : List Str) ++ (["first", "last", "found", "start", "rest", "least", "most", "width"] : List Str)) (fnB (stTop 37)) d_spans := by
 have S := S_spans
 unfold d_spans
 refine .cons ?_ ?_
 refine .assign S 4 rfl (fun _ => rfl) ?_
 exact .cint
 refine .cons ?_ ?_
 refine .assign S 5 rfl (fun _ => rfl) ?_
 exact .var S 0 rfl
 refine .cons ?_ ?_
 refine .if_ ?_ ?_ ?_
 refine .cmp rfl ?_ ?_
 exact .var S 1 rfl
 exact .globI S 0 rfl (P.con 13)
 refine .cons ?_ ?_
 refine .assign S 4 rfl (fun _ => rfl) ?_
 exact .var S 1 rfl
 refine .cons ?_ ?_
 refine .assign S 5 rfl (fun _ => rfl) ?_
 refine .callBi (bi := "min") S 1 rfl (P.non 2) rfl (by decide) (bi_min (by decide)) ?_
 refine .cons (SR rfl) ?_ ?_
 exact .var S 1 rfl
 refine .cons (SR rfl) ?_ ?_
 exact .var S 0 rfl
 exact .nil
 exact .nil
 exact .nil
 refine .cons ?_ ?_
 refine .assign S 6 rfl (fun _ => rfl) ?_
 refine .list ?_
 exact .nil
 refine .cons ?_ ?_
 refine .forR (by decide) S 2 rfl (P.non 9) TgtName.name (gName_chk 7) ?_ ?_ ?_
 refine .cons (SR rfl) ?_ ?_
 exact .var S 4 rfl
 refine .cons (SR rfl) ?_ ?_
 refine .bin ?_ ?_
 exact .var S 5 rfl
 exact .cint
 exact .nil
 exact .name S 7 rfl
 refine .cons ?_ ?_
 refine .assign S 8 rfl (fun _ => rfl) ?_
 refine .bin ?_ ?_
 exact .var S 0 rfl
 exact .var S 7 rfl
 refine .cons ?_ ?_
 refine .assign S 9 rfl (fun _ => rfl) ?_
 exact .cint
 refine .cons ?_ ?_
 refine .assign S 10 rfl (fun _ => rfl) ?_
 exact .var S 8 rfl
 refine .cons ?_ ?_
 refine .if_ ?_ ?_ ?_
 refine .cmp rfl ?_ ?_
 exact .var S 2 rfl
 exact .globI S 0 rfl (P.con 13)
 refine .cons ?_ ?_
 refine .assign S 9 rfl (fun _ => rfl) ?_
 exact .var S 2 rfl
 refine .cons ?_ ?_
 refine .assign S 10 rfl (fun _ => rfl) ?_
 refine .callBi (bi := "min") S 1 rfl (P.non 2) rfl (by decide) (bi_min (by decide)) ?_
 refine .cons (SR rfl) ?_ ?_
 exact .var S 2 rfl
 refine .cons (SR rfl) ?_ ?_
 exact .var S 8 rfl
 exact .nil
 exact .nil
 refine .cons ?_ ?_
 refine .if_ ?_ ?_ ?_
 refine .cmp rfl ?_ ?_
 exact .var S 3 rfl
 exact .globI S 0 rfl (P.con 13)
 refine .cons ?_ ?_
 refine .assign S 9 rfl (fun _ => rfl) ?_
 refine .callBi (bi := "max") S 3 rfl (P.non 3) rfl (by decide) (bi_max (by decide)) ?_
 refine .cons (SR rfl) ?_ ?_
 refine .bin ?_ ?_
 exact .var S 8 rfl
 exact .var S 3 rfl
 refine .cons (SR rfl) ?_ ?_
 exact .cint
 exact .nil
 refine .cons ?_ ?_
 refine .assign S 10 rfl (fun _ => rfl) ?_
 refine .bin ?_ ?_
 exact .var S 8 rfl
 exact .var S 3 rfl
 exact .nil
 exact .nil
 exact .nil
 refine .cons ?_ ?_
 refine .forR (by decide) S 2 rfl (P.non 9) TgtName.name (gName_chk 11) ?_ ?_ ?_
 refine .cons (SR rfl) ?_ ?_
 exact .var S 9 rfl
 refine .cons (SR rfl) ?_ ?_
 refine .bin ?_ ?_
 exact .var S 10 rfl
 exact .cint
 exact .nil
 exact .name S 11 rfl
 refine .cons ?_ ?_
 refine .if_ ?_ ?_ ?_
 refine .bool ?_
 refine .or_cons ?_ ?_
 refine .cmp rfl ?_ ?_
 exact .var S 3 rfl
 exact .globI S 0 rfl (P.con 13)
 refine .or_cons ?_ ?_
 refine .cmp rfl ?_ ?_
 refine .bin ?_ ?_
 exact .var S 8 rfl
 exact .var S 11 rfl
 exact .var S 3 rfl
 exact .or_nil
 refine .cons ?_ ?_
 refine .expr S (fun _ => rfl) ?_
 refine .methB .list (fun _ _ => rfl) (by decide) rfl PySem.F.plainAttrs_list PySem.F.slot_list_append PySem.F.type_list_append bi_append ?_ ?_
 exact .var S 6 rfl
 refine .cons (SR rfl) ?_ ?_
 refine .tup ?_
 refine .cons (SR rfl) ?_ ?_
 exact .var S 7 rfl
 refine .cons (SR rfl) ?_ ?_
 exact .var S 11 rfl
 exact .nil
 exact .nil
 exact .nil
 exact .nil
 exact .nil
 exact .nil
 refine .cons ?_ ?_
 refine .ret ?_
 exact .var S 6 rfl
 exact .nil
theorem snd_spans (P : PC C f) : FnSnd C 13 (.ref (f 30)) sp_spans := by
 unfold sp_spans
 refine FnSnd.of_body (n := 12) (gn := (["ANY", "min", "range", "max"] : List Str)) (["length", "before", "size", "after"] : List Str) (["first", "last", "found", "start", "rest", "least", "most", "width"] : List Str) 4 [] P.lim (P.fn 30) S_spans ?_ ?_ ?_ ?_ ?_
 exact rfl
 exact bod_spans P
 decide +kernel
 exact rfl
 exact rfl
theorem S_sub_atom_rows : FnS (fnSc (stTop 38)) ((["m", "text", "before", "size", "after", "sub"] : List Str) ++ (["length", "count", "functor", "rows", "found", "start", "width", "part", "rest", "cells"] : List Str)) (["ANY", "len", "CON", "A_NIL", "ROW_CELLS", "resource_error", "spans", "INT", "atom_cell"] : List Str) := ⟨rfl, by decide +kernel, by decide +kernel, by decide +kernel, by decide +kernel⟩
theorem bod_sub_atom_rows (P : PC C f) : SndS C 24 (fnSc (stTop 38)) ((["m", "text", "before", "size", "after", "sub"] : List Str) ++ (["length", "count", "functor", "rows", "found", "start", "width", "part", "rest", "cells"] : List Str)) (fnB (stTop 38)) d_sub_atom_rows := by
 have S := S_sub_atom_rows
 unfold d_sub_atom_rows
 refine .cons ?_ ?_
 refine .if_ ?_ ?_ ?_
 refine .cmp rfl ?_ ?_
 exact .var S 5 rfl
 exact .cnone
 refine .cons ?_ ?_
 refine .if_ ?_ ?_ ?_
 refine .bool ?_
 refine .and_cons ?_ ?_
 refine .cmp rfl ?_ ?_
 exact .var S 3 rfl
 exact .globI S 0 rfl (P.con 13)
 refine .and_cons ?_ ?_
 refine .cmp rfl ?_ ?_
 exact .var S 3 rfl
 refine .callBi (bi := "len") S 1 rfl (P.non 0) rfl (by decide) bi_len ?_
 refine .cons (SR rfl) ?_ ?_
 exact .var S 5 rfl
 exact .nil
 exact .and_nil
 refine .cons ?_ ?_
 refine .ret ?_
 refine .tup ?_
 refine .cons (SR rfl) ?_ ?_
 exact .globI S 2 rfl (P.con 8)
 refine .cons (SR rfl) ?_ ?_
 exact .globI S 3 rfl (P.con 0)
 exact .nil
 exact .nil
 exact .nil
 refine .cons ?_ ?_
 refine .assign S 3 rfl (fun _ => rfl) ?_
 refine .callBi (bi := "len") S 1 rfl (P.non 0) rfl (by decide) bi_len ?_
 refine .cons (SR rfl) ?_ ?_
 exact .var S 5 rfl
 exact .nil
 exact .nil
 exact .nil
 refine .cons ?_ ?_
 refine .assign S 6 rfl (fun _ => rfl) ?_
 refine .callBi (bi := "len") S 1 rfl (P.non 0) rfl (by decide) bi_len ?_
 refine .cons (SR rfl) ?_ ?_
 exact .var S 1 rfl
 exact .nil
 refine .cons ?_ ?_
 refine .if_ ?_ ?_ ?_
 refine .bool ?_
 refine .and_cons ?_ ?_
 refine .cmp rfl ?_ ?_
 exact .var S 2 rfl
 exact .globI S 0 rfl (P.con 13)
 refine .and_cons ?_ ?_
 refine .cmp rfl ?_ ?_
 exact .var S 3 rfl
 exact .globI S 0 rfl (P.con 13)
 refine .and_cons ?_ ?_
 refine .cmp rfl ?_ ?_
 exact .var S 4 rfl
 exact .globI S 0 rfl (P.con 13)
 exact .and_nil
 refine .cons ?_ ?_
 refine .assign S 7 rfl (fun _ => rfl) ?_
 refine .bin ?_ ?_
 refine .bin ?_ ?_
 refine .bin ?_ ?_
 exact .var S 6 rfl
 exact .cint
 refine .bin ?_ ?_
 exact .var S 6 rfl
 exact .cint
 exact .cint
 refine .cons ?_ ?_
 refine .if_ ?_ ?_ ?_
 refine .cmp rfl ?_ ?_
 refine .bin ?_ ?_
 exact .var S 7 rfl
 exact .globI S 4 rfl (P.con 14)
 refine .attr 6 rfl (by decide) (fun _ _ => rfl) ?_
 refine .attr 15 rfl (by decide) (fun _ _ => rfl) ?_
 exact .var S 0 rfl
 refine .cons ?_ ?_
 refine .raise_ (by decide) ?_
 refine .callFn S 5 rfl (P.gf 4) (.of_K (P.kf 11)) (snd_resource_error P) (by decide) ?_
 refine .cons (SR rfl) ?_ ?_
 refine .attr 5 rfl (by decide) (fun _ _ => rfl) ?_
 exact .var S 0 rfl
 refine .cons (SR rfl) ?_ ?_
 exact .cstr (by decide +kernel)
 exact .nil
 exact .nil
 exact .nil
 exact .nil
 exact .nil
 refine .cons ?_ ?_
 refine .assign S 8 rfl (fun _ => rfl) ?_
 refine .meth (c := 0) (by decide) (fun _ _ => rfl) (by decide) rfl (P.m 5) (P.isf 6) (by decide +kernel) (P.kf 6) (snd_sy_func P) (by decide) ?_ ?_
 refine .attr 5 rfl (by decide) (fun _ _ => rfl) ?_
 exact .var S 0 rfl
 refine .cons (SR rfl) ?_ ?_
 exact .cstr (by decide +kernel)
 refine .cons (SR rfl) ?_ ?_
 exact .cint
 exact .nil
 refine .cons ?_ ?_
 refine .assign S 9 rfl (fun _ => rfl) ?_
 refine .list ?_
 exact .nil
 refine .cons ?_ ?_
 refine .assign S 10 rfl (fun _ => rfl) ?_
 refine .callFn S 6 rfl (P.gf 10) (.of_K (P.kf 30)) (snd_spans P) (by decide) ?_
 refine .cons (SR rfl) ?_ ?_
 exact .var S 6 rfl
 refine .cons (SR rfl) ?_ ?_
 exact .var S 2 rfl
 refine .cons (SR rfl) ?_ ?_
 exact .var S 3 rfl
 refine .cons (SR rfl) ?_ ?_
 exact .var S 4 rfl
 exact .nil
 refine .cons ?_ ?_
 refine .if_ ?_ ?_ ?_
 refine .bool ?_
 refine .and_cons ?_ ?_
 refine .cmp rfl ?_ ?_
 exact .var S 5 rfl
 exact .cnone
 refine .and_cons ?_ ?_
 refine .cmp rfl ?_ ?_
 refine .bin ?_ ?_
 refine .callBi (bi := "len") S 1 rfl (P.non 0) rfl (by decide) bi_len ?_
 refine .cons (SR rfl) ?_ ?_
 exact .var S 10 rfl
 exact .nil
 exact .globI S 4 rfl (P.con 14)
 refine .attr 6 rfl (by decide) (fun _ _ => rfl) ?_
 refine .attr 15 rfl (by decide) (fun _ _ => rfl) ?_
 exact .var S 0 rfl
 exact .and_nil
 refine .cons ?_ ?_
 exact .stuck
 exact .nil
 exact .nil
 refine .cons ?_ ?_
 refine .forT (by decide) TgtList.tup (fun _ _ => rfl) (gTup2_chk 11 12) ?_ ?_ ?_
 exact .var S 10 rfl
 refine .tup2 (by decide) (fun _ => rfl) ?_ ?_
 exact .name S 11 rfl
 exact .name S 12 rfl
 refine .cons ?_ ?_
 refine .assign S 13 rfl (fun _ => rfl) ?_
 refine .slice (fun _ _ => ⟨_, rfl⟩) (fun _ _ => rfl) ?_ ?_ ?_ ?_
 exact .var S 1 rfl
 refine .some ?_
 exact .var S 11 rfl
 refine .some ?_
 refine .bin ?_ ?_
 exact .var S 11 rfl
 exact .var S 12 rfl
 exact .none
 refine .cons ?_ ?_
 refine .if_ ?_ ?_ ?_
 refine .bool ?_
 refine .or_cons ?_ ?_
 refine .cmp rfl ?_ ?_
 exact .var S 5 rfl
 exact .cnone
 refine .or_cons ?_ ?_
 refine .cmp rfl ?_ ?_
 exact .var S 13 rfl
 exact .var S 5 rfl
 exact .or_nil
 refine .cons ?_ ?_
 refine .assign S 14 rfl (fun _ => rfl) ?_
 refine .tup ?_
 refine .cons (SR rfl) ?_ ?_
 exact .globI S 7 rfl (P.con 9)
 refine .cons (SR rfl) ?_ ?_
 refine .bin ?_ ?_
 refine .bin ?_ ?_
 exact .var S 6 rfl
 exact .var S 11 rfl
 exact .var S 12 rfl
 exact .nil
 refine .cons ?_ ?_
 refine .assign S 15 rfl (fun _ => rfl) ?_
 refine .list ?_
 refine .cons (SR rfl) ?_ ?_
 refine .tup ?_
 refine .cons (SR rfl) ?_ ?_
 exact .globI S 7 rfl (P.con 9)
 refine .cons (SR rfl) ?_ ?_
 exact .var S 11 rfl
 exact .nil
 refine .cons (SR rfl) ?_ ?_
 refine .tup ?_
 refine .cons (SR rfl) ?_ ?_
 exact .globI S 7 rfl (P.con 9)
 refine .cons (SR rfl) ?_ ?_
 exact .var S 12 rfl
 exact .nil
 refine .cons (SR rfl) ?_ ?_
 exact .var S 14 rfl
 refine .cons (SR rfl) ?_ ?_
 refine .callFn S 8 rfl (P.gf 7) (.of_K (P.kf 27)) (snd_atom_cell P) (by decide) ?_
 refine .cons (SR rfl) ?_ ?_
 exact .var S 0 rfl
 refine .cons (SR rfl) ?_ ?_
 exact .var S 13 rfl
 exact .nil
 exact .nil
 refine .cons ?_ ?_
 refine .expr S (fun _ => rfl) ?_
 refine .methB .list (fun _ _ => rfl) (by decide) rfl PySem.F.plainAttrs_list PySem.F.slot_list_append PySem.F.type_list_append bi_append ?_ ?_
 exact .var S 9 rfl
 refine .cons (SR rfl) ?_ ?_
 refine .meth (c := 2) (by decide) (fun _ _ => rfl) (by decide) rfl (P.m 16) (P.isf 23) (by decide +kernel) (P.kf 23) (snd_st_new_struct P) (by decide) ?_ ?_
 refine .attr 15 rfl (by decide) (fun _ _ => rfl) ?_
 exact .var S 0 rfl
 refine .cons (SR rfl) ?_ ?_
 exact .var S 8 rfl
 refine .cons (SR rfl) ?_ ?_
 exact .var S 15 rfl
 exact .nil
 exact .nil
 exact .nil
 exact .nil
 exact .nil
 refine .cons ?_ ?_
 refine .ret ?_
 refine .meth (c := 2) (by decide) (fun _ _ => rfl) (by decide) rfl (P.m 17) (P.isf 24) (by decide +kernel) (P.kf 24) (snd_st_build_list P) (by decide) ?_ ?_
 refine .attr 15 rfl (by decide) (fun _ _ => rfl) ?_
 exact .var S 0 rfl
 refine .cons (SR rfl) ?_ ?_
 exact .var S 9 rfl
 exact .nil
 exact .nil
theorem snd_sub_atom_rows (P : PC C f) : FnSnd C 25 (.ref (f 31)) sp_sub_atom_rows := by
 unfold sp_sub_atom_rows
 refine FnSnd.of_body (n := 24) (gn := (["ANY", "len", "CON", "A_NIL", "ROW_CELLS", "resource_error", "spans", "INT", "atom_cell"] : List Str)) (["m", "text", "before", "size", "after", "sub"] : List Str) (["length", "count", "functor", "rows", "found", "start", "width", "part", "rest", "cells"] : List Str) 6 [] P.lim (P.fn 31) S_sub_atom_rows ?_ ?_ ?_ ?_ ?_
 exact rfl
 exact bod_sub_atom_rows P
 decide +kernel
 exact rfl
 exact rfl
theorem S_splits : FnS (fnSc (stTop 39)) ((["whole", "first", "second"] : List Str) ++ (["found", "place", "left", "right", "fits"] : List Str)) (["range", "len"] : List Str) := ⟨rfl, by decide +kernel, by decide +kernel, by decide +kernel, by decide +kernel⟩
theorem bod_splits (P : PC C f) : SndS C 12 (fnSc (stTop 39)) ((["whole", "first", "second"] : List Str) ++ (["found", "place", "left", "right", "fits"] : List Str)) (fnB (stTop 39)) d_splits := by
 have S := S_splits
 unfold d_splits
 refine .cons ?_ ?_
 refine .assign S 3 rfl (fun _ => rfl) ?_
 refine .list ?_
 exact .nil
 refine .cons ?_ ?_
 refine .forR (by decide) S 0 rfl (P.non 9) TgtName.name (gName_chk 4) ?_ ?_ ?_
 refine .cons (SR rfl) ?_ ?_
 refine .bin ?_ ?_
 refine .callBi (bi := "len") S 1 rfl (P.non 0) rfl (by decide) bi_len ?_
 refine .cons (SR rfl) ?_ ?_
 exact .var S 0 rfl
 exact .nil
 exact .cint
 exact .nil
 exact .name S 4 rfl
 refine .cons ?_ ?_
 refine .assign S 5 rfl (fun _ => rfl) ?_
 refine .slice (fun _ _ => ⟨_, rfl⟩) (fun _ _ => rfl) ?_ ?_ ?_ ?_
 exact .var S 0 rfl
 exact .none
 refine .some ?_
 exact .var S 4 rfl
 exact .none
 refine .cons ?_ ?_
 refine .assign S 6 rfl (fun _ => rfl) ?_
 refine .slice (fun _ _ => ⟨_, rfl⟩) (fun _ _ => rfl) ?_ ?_ ?_ ?_
 exact .var S 0 rfl
 refine .some ?_
 exact .var S 4 rfl
 exact .none
 exact .none
 refine .cons ?_ ?_
 refine .assign S 7 rfl (fun _ => rfl) ?_
 refine .or2 ?_ ?_
 refine .cmp rfl ?_ ?_
 exact .var S 1 rfl
 exact .cnone
 refine .cmp rfl ?_ ?_
 exact .var S 5 rfl
 exact .var S 1 rfl
 refine .cons ?_ ?_
 refine .if_ ?_ ?_ ?_
 refine .bool ?_
 refine .and_cons ?_ ?_
 refine .val ?_ (fun _ _ => rfl)
 exact .var S 7 rfl
 refine .and_cons ?_ ?_
 refine .bool ?_
 refine .or_cons ?_ ?_
 refine .cmp rfl ?_ ?_
 exact .var S 2 rfl
 exact .cnone
 refine .or_cons ?_ ?_
 refine .cmp rfl ?_ ?_
 exact .var S 6 rfl
 exact .var S 2 rfl
 exact .or_nil
 exact .and_nil
 refine .cons ?_ ?_
 refine .expr S (fun _ => rfl) ?_
 refine .methB .list (fun _ _ => rfl) (by decide) rfl PySem.F.plainAttrs_list PySem.F.slot_list_append PySem.F.type_list_append bi_append ?_ ?_
 exact .var S 3 rfl
 refine .cons (SR rfl) ?_ ?_
 refine .tup ?_
 refine .cons (SR rfl) ?_ ?_
 exact .var S 5 rfl
 refine .cons (SR rfl) ?_ ?_
 exact .var S 6 rfl
 exact .nil
 exact .nil
 exact .nil
 exact .nil
 exact .nil
 refine .cons ?_ ?_
 refine .ret ?_
 exact .var S 3 rfl
 exact .nil
theorem snd_splits (P : PC C f) : FnSnd C 13 (.ref (f 32)) sp_splits := by
 unfold sp_splits
 refine FnSnd.of_body (n := 12) (gn := (["range", "len"] : List Str)) (["whole", "first", "second"] : List Str) (["found", "place", "left", "right", "fits"] : List Str) 3 [] P.lim (P.fn 32) S_splits ?_ ?_ ?_ ?_ ?_
 exact rfl
 exact bod_splits P
 decide +kernel
 exact rfl
 exact rfl
theorem snd_cStore (P : PC C f) : FnSnd C 12 (.ref (C.cls 2)) sp_cStore := mk_snd P.mk2 (P.m 1) (P.isf 14) (snd_ce_init P)
theorem S_ar_reset : FnS (fnSc (stIn 42 1)) ((["self"] : List Str) ++ ([] : List Str)) (["Store", "VOID", "READ"] : List Str) := ⟨rfl, by decide +kernel, by decide +kernel, by decide +kernel, by decide +kernel⟩
theorem bod_ar_reset (P : PC C f) : SndS C 14 (fnSc (stIn 42 1)) ((["self"] : List Str) ++ ([] : List Str)) (fnB (stIn 42 1)) d_ar_reset := by
 have S := S_ar_reset
 unfold d_ar_reset
 refine .cons ?_ ?_
 refine .setAttr 15 rfl (fun _ => rfl) ?_ ?_
 refine .callFn S 0 rfl (P.gc 2) (.of_K (P.kc 2)) (snd_cStore P) (by decide) ?_
 refine .cons (SR rfl) ?_ ?_
 refine .attr 5 rfl (by decide) (fun _ _ => rfl) ?_
 exact .var S 0 rfl
 refine .cons (SR rfl) ?_ ?_
 refine .attr 6 rfl (by decide) (fun _ _ => rfl) ?_
 exact .var S 0 rfl
 exact .nil
 exact .var S 0 rfl
 refine .cons ?_ ?_
 refine .setAttr 16 rfl (fun _ => rfl) ?_ ?_
 refine .list ?_
 refine .cons (SR rfl) ?_ ?_
 exact .globT2 S 1 rfl P.void
 exact .nil
 exact .var S 0 rfl
 refine .cons ?_ ?_
 refine .setAttr 17 rfl (fun _ => rfl) ?_ ?_
 exact .cint
 exact .var S 0 rfl
 refine .cons ?_ ?_
 refine .setAttr 18 rfl (fun _ => rfl) ?_ ?_
 exact .cint
 exact .var S 0 rfl
 refine .cons ?_ ?_
 refine .setAttr 19 rfl (fun _ => rfl) ?_ ?_
 refine .neg ?_
 exact .cint
 exact .var S 0 rfl
 refine .cons ?_ ?_
 refine .setAttr 20 rfl (fun _ => rfl) ?_ ?_
 refine .neg ?_
 exact .cint
 exact .var S 0 rfl
 refine .cons ?_ ?_
 refine .setAttr 21 rfl (fun _ => rfl) ?_ ?_
 refine .neg ?_
 exact .cint
 exact .var S 0 rfl
 refine .cons ?_ ?_
 refine .setAttr 22 rfl (fun _ => rfl) ?_ ?_
 exact .globS S 2 rfl P.rd
 exact .var S 0 rfl
 refine .cons ?_ ?_
 refine .setAttr 23 rfl (fun _ => rfl) ?_ ?_
 exact .cint
 exact .var S 0 rfl
 refine .cons ?_ ?_
 refine .setAttr 24 rfl (fun _ => rfl) ?_ ?_
 exact .globT2 S 1 rfl P.void
 exact .var S 0 rfl
 refine .cons ?_ ?_
 refine .setAttr 25 rfl (fun _ => rfl) ?_ ?_
 refine .list ?_
 exact .nil
 exact .var S 0 rfl
 refine .cons ?_ ?_
 refine .setAttr 26 rfl (fun _ => rfl) ?_ ?_
 exact .dictI
 exact .var S 0 rfl
 refine .cons ?_ ?_
 refine .setAttr 27 rfl (fun _ => rfl) ?_ ?_
 exact .cbool
 exact .var S 0 rfl
 exact .nil
theorem snd_ar_reset (P : PC C f) : FnSnd C 15 (.ref (f 34)) sp_ar_reset := by
 unfold sp_ar_reset
 refine FnSnd.of_body (n := 14) (gn := (["Store", "VOID", "READ"] : List Str)) (["self"] : List Str) ([] : List Str) 1 [] P.lim (P.fn 34) S_ar_reset ?_ ?_ ?_ ?_ ?_
 exact rfl
 exact bod_ar_reset P
 decide +kernel
 exact rfl
 exact rfl
theorem S_ar_init : FnS (fnSc (stIn 42 0)) ((["self", "symbols", "code", "max_heap", "occurs", "max_bits"] : List Str) ++ ([] : List Str)) ([] : List Str) := ⟨rfl, by decide +kernel, by decide +kernel, by decide +kernel, by decide +kernel⟩
theorem bod_ar_init (P : PC C f) : SndS C 16 (fnSc (stIn 42 0)) ((["self", "symbols", "code", "max_heap", "occurs", "max_bits"] : List Str) ++ ([] : List Str)) (fnB (stIn 42 0)) d_ar_init := by
 have S := S_ar_init
 unfold d_ar_init
 refine .cons ?_ ?_
 refine .setAttr 5 rfl (fun _ => rfl) ?_ ?_
 exact .var S 1 rfl
 exact .var S 0 rfl
 refine .cons ?_ ?_
 refine .setAttr 12 rfl (fun _ => rfl) ?_ ?_
 exact .var S 2 rfl
 exact .var S 0 rfl
 refine .cons ?_ ?_
 refine .setAttr 6 rfl (fun _ => rfl) ?_ ?_
 exact .var S 3 rfl
 exact .var S 0 rfl
 refine .cons ?_ ?_
 refine .setAttr 13 rfl (fun _ => rfl) ?_ ?_
 exact .var S 4 rfl
 exact .var S 0 rfl
 refine .cons ?_ ?_
 refine .setAttr 14 rfl (fun _ => rfl) ?_ ?_
 exact .var S 5 rfl
 exact .var S 0 rfl
 refine .cons ?_ ?_
 refine .expr S (fun _ => rfl) ?_
 refine .meth (c := 3) (by decide) (fun _ _ => rfl) (by decide) rfl (P.m 20) (P.isf 34) (by decide +kernel) (P.kf 34) (snd_ar_reset P) (by decide) ?_ ?_
 exact .var S 0 rfl
 exact .nil
 exact .nil
theorem snd_ar_init (P : PC C f) : FnSnd C 17 (.ref (f 33)) sp_ar_init := by
 unfold sp_ar_init
 refine FnSnd.of_body (n := 16) (gn := ([] : List Str)) (["self", "symbols", "code", "max_heap", "occurs", "max_bits"] : List Str) ([] : List Str) 4 [AV.bool true, AV.int 4096] P.lim (P.fn 33) S_ar_init ?_ ?_ ?_ ?_ ?_
 exact rfl
 exact bod_ar_init P
 decide +kernel
 exact rfl
 exact rfl
theorem S_ar_take : FnS (fnSc (stIn 42 6)) ((["self", "cell"] : List Str) ++ ([] : List Str)) ([] : List Str) := ⟨rfl, by decide +kernel, by decide +kernel, by decide +kernel, by decide +kernel⟩
theorem bod_ar_take (P : PC C f) : SndS C 25 (fnSc (stIn 42 6)) ((["self", "cell"] : List Str) ++ ([] : List Str)) (fnB (stIn 42 6)) d_ar_take := by
 have S := S_ar_take
 unfold d_ar_take
 refine .cons ?_ ?_
 refine .ret ?_
 refine .meth (c := 2) (by decide) (fun _ _ => rfl) (by decide) rfl (P.m 19) (P.isf 26) (by decide +kernel) (P.kf 26) (snd_st_take_term P) (by decide) ?_ ?_
 refine .attr 15 rfl (by decide) (fun _ _ => rfl) ?_
 exact .var S 0 rfl
 refine .cons (SR rfl) ?_ ?_
 exact .var S 1 rfl
 refine .cons (SR rfl) ?_ ?_
 exact .dictI
 exact .nil
 exact .nil
theorem snd_ar_take (P : PC C f) : FnSnd C 26 (.ref (f 35)) sp_ar_take := by
 unfold sp_ar_take
 refine FnSnd.of_body (n := 25) (gn := ([] : List Str)) (["self", "cell"] : List Str) ([] : List Str) 2 [] P.lim (P.fn 35) S_ar_take ?_ ?_ ?_ ?_ ?_
 exact rfl
 exact bod_ar_take P
 decide +kernel
 exact rfl
 exact rfl
theorem S_law_pinch : FnS (fnSc (stTop 44)) ((["salt", "limit"] : List Str) ++ ([] : List Str)) (["len", "abs"] : List Str) := ⟨rfl, by decide +kernel, by decide +kernel, by decide +kernel, by decide +kernel⟩
theorem bod_law_pinch (P : PC C f) : SndS C 12 (fnSc (stTop 44)) ((["salt", "limit"] : List Str) ++ ([] : List Str)) (fnB (stTop 44)) d_law_pinch := by
 have S := S_law_pinch
 unfold d_law_pinch
 refine .cons ?_ ?_
 refine .augItem (fun _ _ _ => rfl) ?_ ?_ ?_
 exact .var S 0 rfl
 exact .cint
 exact .cint
 refine .cons ?_ ?_
 refine .if_ ?_ ?_ ?_
 refine .cmp rfl ?_ ?_
 refine .item (fun _ _ => rfl) ?_ ?_
 exact .var S 0 rfl
 exact .cint
 refine .callBi (bi := "len") S 0 rfl (P.non 0) rfl (by decide) bi_len ?_
 refine .cons (SR rfl) ?_ ?_
 refine .item (fun _ _ => rfl) ?_ ?_
 exact .var S 0 rfl
 exact .cint
 exact .nil
 refine .cons ?_ ?_
 refine .ret ?_
 exact .cint
 exact .nil
 exact .nil
 refine .cons ?_ ?_
 refine .ret ?_
 refine .bin ?_ ?_
 refine .callBi (bi := "abs") S 1 rfl (P.non 1) rfl (by decide) bi_abs ?_
 refine .cons (SR rfl) ?_ ?_
 refine .item (fun _ _ => rfl) ?_ ?_
 refine .item (fun _ _ => rfl) ?_ ?_
 exact .var S 0 rfl
 exact .cint
 refine .bin ?_ ?_
 refine .item (fun _ _ => rfl) ?_ ?_
 exact .var S 0 rfl
 exact .cint
 exact .cint
 exact .nil
 exact .var S 1 rfl
 exact .nil
theorem snd_law_pinch (P : PC C f) : FnSnd C 13 (.ref (f 36)) sp_law_pinch := by
 unfold sp_law_pinch
 refine FnSnd.of_body (n := 12) (gn := (["len", "abs"] : List Str)) (["salt", "limit"] : List Str) ([] : List Str) 2 [] P.lim (P.fn 36) S_law_pinch ?_ ?_ ?_ ?_ ?_
 exact rfl
 exact bod_law_pinch P
 decide +kernel
 exact rfl
 exact rfl
theorem S_law_text : FnS (fnSc (stTop 45)) ((["salt", "most"] : List Str) ++ (["text", "lap"] : List Str)) (["range", "_law_pinch"] : List Str) := ⟨rfl, by decide +kernel, by decide +kernel, by decide +kernel, by decide +kernel⟩
theorem bod_law_text (P : PC C f) : SndS C 14 (fnSc (stTop 45)) ((["salt", "most"] : List Str) ++ (["text", "lap"] : List Str)) (fnB (stTop 45)) d_law_text := by
 have S := S_law_text
 unfold d_law_text
 refine .cons ?_ ?_
 refine .assign S 2 rfl (fun _ => rfl) ?_
 exact .cstr (by decide +kernel)
 refine .cons ?_ ?_
 refine .forR (by decide) S 0 rfl (P.non 9) TgtName.name (gName_chk 3) ?_ ?_ ?_
 refine .cons (SR rfl) ?_ ?_
 refine .callFn S 1 rfl (P.gf 13) (.of_K (P.kf 36)) (snd_law_pinch P) (by decide) ?_
 refine .cons (SR rfl) ?_ ?_
 exact .var S 0 rfl
 refine .cons (SR rfl) ?_ ?_
 exact .var S 1 rfl
 exact .nil
 exact .nil
 exact .name S 3 rfl
 refine .cons ?_ ?_
 refine .assign S 2 rfl (fun _ => rfl) ?_
 refine .bin ?_ ?_
 exact .var S 2 rfl
 refine .item (fun _ _ => rfl) ?_ ?_
 exact .cstr (by decide +kernel)
 refine .callFn S 1 rfl (P.gf 13) (.of_K (P.kf 36)) (snd_law_pinch P) (by decide) ?_
 refine .cons (SR rfl) ?_ ?_
 exact .var S 0 rfl
 refine .cons (SR rfl) ?_ ?_
 exact .cint
 exact .nil
 exact .nil
 refine .cons ?_ ?_
 refine .ret ?_
 exact .var S 2 rfl
 exact .nil
theorem snd_law_text (P : PC C f) : FnSnd C 15 (.ref (f 37)) sp_law_text := by
 unfold sp_law_text
 refine FnSnd.of_body (n := 14) (gn := (["range", "_law_pinch"] : List Str)) (["salt", "most"] : List Str) (["text", "lap"] : List Str) 2 [] P.lim (P.fn 37) S_law_text ?_ ?_ ?_ ?_ ?_
 exact rfl
 exact bod_law_text P
 decide +kernel
 exact rfl
 exact rfl
theorem S_law_any : FnS (fnSc (stTop 46)) ((["salt"] : List Str) ++ (["figure"] : List Str)) (["_law_pinch", "ANY"] : List Str) := ⟨rfl, by decide +kernel, by decide +kernel, by decide +kernel, by decide +kernel⟩
theorem bod_law_any (P : PC C f) : SndS C 14 (fnSc (stTop 46)) ((["salt"] : List Str) ++ (["figure"] : List Str)) (fnB (stTop 46)) d_law_any := by
 have S := S_law_any
 unfold d_law_any
 refine .cons ?_ ?_
 refine .assign S 1 rfl (fun _ => rfl) ?_
 refine .callFn S 0 rfl (P.gf 13) (.of_K (P.kf 36)) (snd_law_pinch P) (by decide) ?_
 refine .cons (SR rfl) ?_ ?_
 exact .var S 0 rfl
 refine .cons (SR rfl) ?_ ?_
 exact .cint
 exact .nil
 refine .cons ?_ ?_
 refine .ret ?_
 refine .ifexp ?_ ?_ ?_
 refine .cmp rfl ?_ ?_
 exact .var S 1 rfl
 exact .cint
 exact .globI S 1 rfl (P.con 13)
 refine .bin ?_ ?_
 exact .var S 1 rfl
 exact .cint
 exact .nil
theorem snd_law_any (P : PC C f) : FnSnd C 15 (.ref (f 38)) sp_law_any := by
 unfold sp_law_any
 refine FnSnd.of_body (n := 14) (gn := (["_law_pinch", "ANY"] : List Str)) (["salt"] : List Str) (["figure"] : List Str) 1 [] P.lim (P.fn 38) S_law_any ?_ ?_ ?_ ?_ ?_
 exact rfl
 exact bod_law_any P
 decide +kernel
 exact rfl
 exact rfl
theorem S_law_parts : FnS (fnSc (stTop 47)) ((["length", "before", "wide", "behind"] : List Str) ++ (["found", "start", "end", "fits"] : List Str)) (["range", "ANY"] : List Str) := ⟨rfl, by decide +kernel, by decide +kernel, by decide +kernel, by decide +kernel⟩
theorem bod_law_parts (P : PC C f) : SndS C 12 (fnSc (stTop 47)) ((["length", "before", "wide", "behind"] : List Str) ++ (["found", "start", "end", "fits"] : List Str)) (fnB (stTop 47)) d_law_parts := by
 have S := S_law_parts
 unfold d_law_parts
 refine .cons ?_ ?_
 refine .assign S 4 rfl (fun _ => rfl) ?_
 refine .list ?_
 exact .nil
 refine .cons ?_ ?_
 refine .forR (by decide) S 0 rfl (P.non 9) TgtName.name (gName_chk 5) ?_ ?_ ?_
 refine .cons (SR rfl) ?_ ?_
 refine .bin ?_ ?_
 exact .var S 0 rfl
 exact .cint
 exact .nil
 exact .name S 5 rfl
 refine .cons ?_ ?_
 refine .forR (by decide) S 0 rfl (P.non 9) TgtName.name (gName_chk 6) ?_ ?_ ?_
 refine .cons (SR rfl) ?_ ?_
 exact .var S 5 rfl
 refine .cons (SR rfl) ?_ ?_
 refine .bin ?_ ?_
 exact .var S 0 rfl
 exact .cint
 exact .nil
 exact .name S 6 rfl
 refine .cons ?_ ?_
 refine .assign S 7 rfl (fun _ => rfl) ?_
 refine .or2 ?_ ?_
 refine .cmp rfl ?_ ?_
 exact .var S 1 rfl
 exact .globI S 1 rfl (P.con 13)
 refine .cmp rfl ?_ ?_
 exact .var S 1 rfl
 exact .var S 5 rfl
 refine .cons ?_ ?_
 refine .assign S 7 rfl (fun _ => rfl) ?_
 refine .and2 ?_ ?_
 exact .var S 7 rfl
 refine .or2 ?_ ?_
 refine .cmp rfl ?_ ?_
 exact .var S 2 rfl
 exact .globI S 1 rfl (P.con 13)
 refine .cmp rfl ?_ ?_
 exact .var S 2 rfl
 refine .bin ?_ ?_
 exact .var S 6 rfl
 exact .var S 5 rfl
 refine .cons ?_ ?_
 refine .if_ ?_ ?_ ?_
 refine .bool ?_
 refine .and_cons ?_ ?_
 refine .val ?_ (fun _ _ => rfl)
 exact .var S 7 rfl
 refine .and_cons ?_ ?_
 refine .bool ?_
 refine .or_cons ?_ ?_
 refine .cmp rfl ?_ ?_
 exact .var S 3 rfl
 exact .globI S 1 rfl (P.con 13)
 refine .or_cons ?_ ?_
 refine .cmp rfl ?_ ?_
 exact .var S 3 rfl
 refine .bin ?_ ?_
 exact .var S 0 rfl
 exact .var S 6 rfl
 exact .or_nil
 exact .and_nil
 refine .cons ?_ ?_
 refine .expr S (fun _ => rfl) ?_
 refine .methB .list (fun _ _ => rfl) (by decide) rfl PySem.F.plainAttrs_list PySem.F.slot_list_append PySem.F.type_list_append bi_append ?_ ?_
 exact .var S 4 rfl
 refine .cons (SR rfl) ?_ ?_
 refine .tup ?_
 refine .cons (SR rfl) ?_ ?_
 exact .var S 5 rfl
 refine .cons (SR rfl) ?_ ?_
 refine .bin ?_ ?_
 exact .var S 6 rfl
 exact .var S 5 rfl
 exact .nil
 exact .nil
 exact .nil
 exact .nil
 exact .nil
 exact .nil
 refine .cons ?_ ?_
 refine .ret ?_
 exact .var S 4 rfl
 exact .nil
theorem snd_law_parts (P : PC C f) : FnSnd C 13 (.ref (f 39)) sp_law_parts := by
 unfold sp_law_parts
 refine FnSnd.of_body (n := 12) (gn := (["range", "ANY"] : List Str)) (["length", "before", "wide", "behind"] : List Str) (["found", "start", "end", "fits"] : List Str) 4 [] P.lim (P.fn 39) S_law_parts ?_ ?_ ?_ ?_ ?_
 exact rfl
 exact bod_law_parts P
 decide +kernel
 exact rfl
 exact rfl
theorem S_law_listed : FnS (fnSc (stTop 48)) ((["names", "text", "parts", "asked"] : List Str) ++ (["made", "start", "wide", "part", "row"] : List Str)) (["A_NIL", "len", "F_DOT"] : List Str) := ⟨rfl, by decide +kernel, by decide +kernel, by decide +kernel, by decide +kernel⟩
theorem bod_law_listed (P : PC C f) : SndS C 14 (fnSc (stTop 48)) ((["names", "text", "parts", "asked"] : List Str) ++ (["made", "start", "wide", "part", "row"] : List Str)) (fnB (stTop 48)) d_law_listed := by
 have S := S_law_listed
 unfold d_law_listed
 refine .cons ?_ ?_
 refine .assign S 4 rfl (fun _ => rfl) ?_
 refine .tup ?_
 refine .cons (SR rfl) ?_ ?_
 exact .cstr (by decide +kernel)
 refine .cons (SR rfl) ?_ ?_
 exact .globI S 0 rfl (P.con 0)
 exact .nil
 refine .cons ?_ ?_
 refine .forT (by decide) TgtList.tup (fun _ _ => rfl) (gTup2_chk 5 6) ?_ ?_ ?_
 refine .slice (fun _ _ => ⟨_, rfl⟩) (fun _ _ => rfl) ?_ ?_ ?_ ?_
 exact .var S 2 rfl
 exact .none
 exact .none
 refine .some ?_
 refine .neg ?_
 exact .cint
 refine .tup2 (by decide) (fun _ => rfl) ?_ ?_
 exact .name S 5 rfl
 exact .name S 6 rfl
 refine .cons ?_ ?_
 refine .assign S 7 rfl (fun _ => rfl) ?_
 refine .slice (fun _ _ => ⟨_, rfl⟩) (fun _ _ => rfl) ?_ ?_ ?_ ?_
 exact .var S 1 rfl
 refine .some ?_
 exact .var S 5 rfl
 refine .some ?_
 refine .bin ?_ ?_
 exact .var S 5 rfl
 exact .var S 6 rfl
 exact .none
 refine .cons ?_ ?_
 refine .if_ ?_ ?_ ?_
 refine .bool ?_
 refine .or_cons ?_ ?_
 refine .cmp rfl ?_ ?_
 exact .var S 3 rfl
 exact .cnone
 refine .or_cons ?_ ?_
 refine .cmp rfl ?_ ?_
 exact .var S 7 rfl
 exact .var S 3 rfl
 exact .or_nil
 refine .cons ?_ ?_
 refine .assign S 8 rfl (fun _ => rfl) ?_
 refine .tup ?_
 refine .cons (SR rfl) ?_ ?_
 refine .tup ?_
 refine .cons (SR rfl) ?_ ?_
 exact .cstr (by decide +kernel)
 refine .cons (SR rfl) ?_ ?_
 exact .var S 5 rfl
 exact .nil
 refine .cons (SR rfl) ?_ ?_
 refine .tup ?_
 refine .cons (SR rfl) ?_ ?_
 exact .cstr (by decide +kernel)
 refine .cons (SR rfl) ?_ ?_
 exact .var S 6 rfl
 exact .nil
 refine .cons (SR rfl) ?_ ?_
 refine .tup ?_
 refine .cons (SR rfl) ?_ ?_
 exact .cstr (by decide +kernel)
 refine .cons (SR rfl) ?_ ?_
 refine .bin ?_ ?_
 refine .bin ?_ ?_
 refine .callBi (bi := "len") S 1 rfl (P.non 0) rfl (by decide) bi_len ?_
 refine .cons (SR rfl) ?_ ?_
 exact .var S 1 rfl
 exact .nil
 exact .var S 5 rfl
 exact .var S 6 rfl
 exact .nil
 refine .cons (SR rfl) ?_ ?_
 refine .tup ?_
 refine .cons (SR rfl) ?_ ?_
 exact .cstr (by decide +kernel)
 refine .cons (SR rfl) ?_ ?_
 refine .meth (c := 0) (by decide) (fun _ _ => rfl) (by decide) rfl (P.m 3) (P.isf 4) (by decide +kernel) (P.kf 4) (snd_sy_atom P) (by decide) ?_ ?_
 exact .var S 0 rfl
 refine .cons (SR rfl) ?_ ?_
 exact .var S 7 rfl
 exact .nil
 exact .nil
 exact .nil
 refine .cons ?_ ?_
 refine .assign S 4 rfl (fun _ => rfl) ?_
 refine .tup ?_
 refine .cons (SR rfl) ?_ ?_
 exact .cstr (by decide +kernel)
 refine .cons (SR rfl) ?_ ?_
 exact .globI S 2 rfl (P.con 2)
 refine .cons (SR rfl) ?_ ?_
 refine .tup ?_
 refine .cons (SR rfl) ?_ ?_
 refine .tup ?_
 refine .cons (SR rfl) ?_ ?_
 exact .cstr (by decide +kernel)
 refine .cons (SR rfl) ?_ ?_
 refine .meth (c := 0) (by decide) (fun _ _ => rfl) (by decide) rfl (P.m 5) (P.isf 6) (by decide +kernel) (P.kf 6) (snd_sy_func P) (by decide) ?_ ?_
 exact .var S 0 rfl
 refine .cons (SR rfl) ?_ ?_
 exact .cstr (by decide +kernel)
 refine .cons (SR rfl) ?_ ?_
 exact .cint
 exact .nil
 refine .cons (SR rfl) ?_ ?_
 exact .var S 8 rfl
 exact .nil
 refine .cons (SR rfl) ?_ ?_
 exact .var S 4 rfl
 exact .nil
 exact .nil
 exact .nil
 exact .nil
 exact .nil
 refine .cons ?_ ?_
 refine .ret ?_
 exact .var S 4 rfl
 exact .nil
theorem snd_law_listed (P : PC C f) : FnSnd C 15 (.ref (f 40)) sp_law_listed := by
 unfold sp_law_listed
 refine FnSnd.of_body (n := 14) (gn := (["A_NIL", "len", "F_DOT"] : List Str)) (["names", "text", "parts", "asked"] : List Str) (["made", "start", "wide", "part", "row"] : List Str) 4 [] P.lim (P.fn 40) S_law_listed ?_ ?_ ?_ ?_ ?_
 exact rfl
 exact bod_law_listed P
 decide +kernel
 exact rfl
 exact rfl
theorem snd_cAreas (P : PC C f) : FnSnd C 18 (.ref (C.cls 3)) sp_cAreas := mk_snd P.mk3 (P.m 2) (P.isf 33) (snd_ar_init P)
theorem S_law_rows_right : FnS (fnSc (stTop 49)) ((["names", "text", "wants", "asked", "room"] : List Str) ++ (["m", "all_parts", "full", "told", "error", "formal", "parts"] : List Str)) (["Areas", "len", "ANY", "ROW_CELLS", "sub_atom_rows", "_law_parts", "_law_listed"] : List Str) := ⟨rfl, by decide +kernel, by decide +kernel, by decide +kernel, by decide +kernel⟩
theorem bod_law_rows_right (P : PC C f) : SndS C 30 (fnSc (stTop 49)) ((["names", "text", "wants", "asked", "room"] : List Str) ++ (["m", "all_parts", "full", "told", "error", "formal", "parts"] : List Str)) (fnB (stTop 49)) d_law_rows_right := by
 have S := S_law_rows_right
 unfold d_law_rows_right
 refine .cons ?_ ?_
 refine .assign S 5 rfl (fun _ => rfl) ?_
 refine .callFn S 0 rfl (P.gc 3) (.of_K (P.kc 3)) (snd_cAreas P) (by decide) ?_
 refine .cons (SR rfl) ?_ ?_
 exact .var S 0 rfl
 refine .cons (SR rfl) ?_ ?_
 refine .list ?_
 exact .nil
 refine .cons (SR rfl) ?_ ?_
 exact .var S 4 rfl
 exact .nil
 refine .cons ?_ ?_
 refine .assign S 6 rfl (fun _ => rfl) ?_
 refine .bin ?_ ?_
 refine .bin ?_ ?_
 refine .bin ?_ ?_
 refine .callBi (bi := "len") S 1 rfl (P.non 0) rfl (by decide) bi_len ?_
 refine .cons (SR rfl) ?_ ?_
 exact .var S 1 rfl
 exact .nil
 exact .cint
 refine .bin ?_ ?_
 refine .callBi (bi := "len") S 1 rfl (P.non 0) rfl (by decide) bi_len ?_
 refine .cons (SR rfl) ?_ ?_
 exact .var S 1 rfl
 exact .nil
 exact .cint
 exact .cint
 refine .cons ?_ ?_
 refine .assign S 7 rfl (fun _ => rfl) ?_
 refine .andC ?_ ?_
 refine .cmp rfl ?_ ?_
 exact .var S 2 rfl
 refine .list ?_
 refine .cons (SR rfl) ?_ ?_
 exact .globI S 2 rfl (P.con 13)
 refine .cons (SR rfl) ?_ ?_
 exact .globI S 2 rfl (P.con 13)
 refine .cons (SR rfl) ?_ ?_
 exact .globI S 2 rfl (P.con 13)
 exact .nil
 refine .and2 ?_ ?_
 refine .cmp rfl ?_ ?_
 exact .var S 3 rfl
 exact .cnone
 refine .cmp rfl ?_ ?_
 refine .bin ?_ ?_
 exact .var S 6 rfl
 exact .globI S 3 rfl (P.con 14)
 exact .var S 4 rfl
 refine .cons ?_ ?_
 refine .tryOk ?_
 refine .cons ?_ ?_
 refine .assign S 8 rfl (fun _ => rfl) ?_
 refine .meth (c := 3) (by decide) (fun _ _ => rfl) (by decide) rfl (P.m 21) (P.isf 35) (by decide +kernel) (P.kf 35) (snd_ar_take P) (by decide) ?_ ?_
 exact .var S 5 rfl
 refine .cons (SR rfl) ?_ ?_
 refine .callFn S 4 rfl (P.gf 11) (.of_K (P.kf 31)) (snd_sub_atom_rows P) (by decide) ?_
 refine .cons (SR rfl) ?_ ?_
 exact .var S 5 rfl
 refine .cons (SR rfl) ?_ ?_
 exact .var S 1 rfl
 refine .cons (SR rfl) ?_ ?_
 refine .item (fun _ _ => rfl) ?_ ?_
 exact .var S 2 rfl
 exact .cint
 refine .cons (SR rfl) ?_ ?_
 refine .item (fun _ _ => rfl) ?_ ?_
 exact .var S 2 rfl
 exact .cint
 refine .cons (SR rfl) ?_ ?_
 refine .item (fun _ _ => rfl) ?_ ?_
 exact .var S 2 rfl
 exact .cint
 refine .cons (SR rfl) ?_ ?_
 exact .var S 3 rfl
 exact .nil
 exact .nil
 exact .nil
 refine .cons ?_ ?_
 refine .assign S 11 rfl (fun _ => rfl) ?_
 refine .callFn S 5 rfl (P.gf 16) (.of_K (P.kf 39)) (snd_law_parts P) (by decide) ?_
 refine .cons (SR rfl) ?_ ?_
 refine .callBi (bi := "len") S 1 rfl (P.non 0) rfl (by decide) bi_len ?_
 refine .cons (SR rfl) ?_ ?_
 exact .var S 1 rfl
 exact .nil
 refine .cons (SR rfl) ?_ ?_
 refine .item (fun _ _ => rfl) ?_ ?_
 exact .var S 2 rfl
 exact .cint
 refine .cons (SR rfl) ?_ ?_
 refine .item (fun _ _ => rfl) ?_ ?_
 exact .var S 2 rfl
 exact .cint
 refine .cons (SR rfl) ?_ ?_
 refine .item (fun _ _ => rfl) ?_ ?_
 exact .var S 2 rfl
 exact .cint
 exact .nil
 refine .cons ?_ ?_
 refine .ret ?_
 refine .and2 ?_ ?_
 refine .not ?_
 exact .var S 7 rfl
 refine .cmp rfl ?_ ?_
 exact .var S 8 rfl
 refine .callFn S 6 rfl (P.gf 17) (.of_K (P.kf 40)) (snd_law_listed P) (by decide) ?_
 refine .cons (SR rfl) ?_ ?_
 exact .var S 0 rfl
 refine .cons (SR rfl) ?_ ?_
 exact .var S 1 rfl
 refine .cons (SR rfl) ?_ ?_
 exact .var S 11 rfl
 refine .cons (SR rfl) ?_ ?_
 exact .var S 3 rfl
 exact .nil
 exact .nil
theorem snd_law_rows_right (P : PC C f) : FnSnd C 31 (.ref (f 41)) sp_law_rows_right := by
 unfold sp_law_rows_right
 refine FnSnd.of_body (n := 30) (gn := (["Areas", "len", "ANY", "ROW_CELLS", "sub_atom_rows", "_law_parts", "_law_listed"] : List Str)) (["names", "text", "wants", "asked", "room"] : List Str) (["m", "all_parts", "full", "told", "error", "formal", "parts"] : List Str) 5 [] P.lim (P.fn 41) S_law_rows_right ?_ ?_ ?_ ?_ ?_
 exact rfl
 exact bod_law_rows_right P
 decide +kernel
 exact rfl
 exact rfl
theorem bod_rr0 (P : PC C f) : SndT C 30 (fnSc (stTop 49)) ((["names", "text", "wants", "asked", "room"] : List Str) ++ (["m", "all_parts", "full", "told", "error", "formal", "parts"] : List Str)) ((fnB (stTop 49)).getD 0 (.Pass ⟨0, 0, 0, 0⟩)) d_rr0 := by
 have S := S_law_rows_right
 unfold d_rr0
 refine .assign S 5 rfl (fun _ => rfl) ?_
 refine .callFn S 0 rfl (P.gc 3) (.of_K (P.kc 3)) (snd_cAreas P) (by decide) ?_
 refine .cons (SR rfl) ?_ ?_
 exact .var S 0 rfl
 refine .cons (SR rfl) ?_ ?_
 refine .list ?_
 exact .nil
 refine .cons (SR rfl) ?_ ?_
 exact .var S 4 rfl
 exact .nil
theorem bod_rr1 (P : PC C f) : SndT C 30 (fnSc (stTop 49)) ((["names", "text", "wants", "asked", "room"] : List Str) ++ (["m", "all_parts", "full", "told", "error", "formal", "parts"] : List Str)) ((fnB (stTop 49)).getD 1 (.Pass ⟨0, 0, 0, 0⟩)) d_rr1 := by
 have S := S_law_rows_right
 unfold d_rr1
 refine .assign S 6 rfl (fun _ => rfl) ?_
 refine .bin ?_ ?_
 refine .bin ?_ ?_
 refine .bin ?_ ?_
 refine .callBi (bi := "len") S 1 rfl (P.non 0) rfl (by decide) bi_len ?_
 refine .cons (SR rfl) ?_ ?_
 exact .var S 1 rfl
 exact .nil
 exact .cint
 refine .bin ?_ ?_
 refine .callBi (bi := "len") S 1 rfl (P.non 0) rfl (by decide) bi_len ?_
 refine .cons (SR rfl) ?_ ?_
 exact .var S 1 rfl
 exact .nil
 exact .cint
 exact .cint
theorem bod_rr2 (P : PC C f) : SndT C 30 (fnSc (stTop 49)) ((["names", "text", "wants", "asked", "room"] : List Str) ++ (["m", "all_parts", "full", "told", "error", "formal", "parts"] : List Str)) ((fnB (stTop 49)).getD 2 (.Pass ⟨0, 0, 0, 0⟩)) d_rr2 := by
 have S := S_law_rows_right
 unfold d_rr2
 refine .assign S 7 rfl (fun _ => rfl) ?_
 refine .andC ?_ ?_
 refine .cmp rfl ?_ ?_
 exact .var S 2 rfl
 refine .list ?_
 refine .cons (SR rfl) ?_ ?_
 exact .globI S 2 rfl (P.con 13)
 refine .cons (SR rfl) ?_ ?_
 exact .globI S 2 rfl (P.con 13)
 refine .cons (SR rfl) ?_ ?_
 exact .globI S 2 rfl (P.con 13)
 exact .nil
 refine .and2 ?_ ?_
 refine .cmp rfl ?_ ?_
 exact .var S 3 rfl
 exact .cnone
 refine .cmp rfl ?_ ?_
 refine .bin ?_ ?_
 exact .var S 6 rfl
 exact .globI S 3 rfl (P.con 14)
 exact .var S 4 rfl
theorem bod_lrr (P : PC C f) : SndL C 30 (fnSc (stTop 49)) ((["names", "text", "wants", "asked", "room"] : List Str) ++ (["m", "all_parts", "full", "told", "error", "formal", "parts"] : List Str)) (subArgs ((fnB (stTop 49)).getD 3 (.Pass ⟨0, 0, 0, 0⟩))) l_rr := by
 have S := S_law_rows_right
 unfold l_rr
 refine .cons (SR rfl) ?_ ?_
 exact .var S 5 rfl
 refine .cons (SR rfl) ?_ ?_
 exact .var S 1 rfl
 refine .cons (SR rfl) ?_ ?_
 refine .item (fun _ _ => rfl) ?_ ?_
 exact .var S 2 rfl
 exact .cint
 refine .cons (SR rfl) ?_ ?_
 refine .item (fun _ _ => rfl) ?_ ?_
 exact .var S 2 rfl
 exact .cint
 refine .cons (SR rfl) ?_ ?_
 refine .item (fun _ _ => rfl) ?_ ?_
 exact .var S 2 rfl
 exact .cint
 refine .cons (SR rfl) ?_ ?_
 exact .var S 3 rfl
 exact .nil
theorem S_hand : FnS (fnSc (stTop 49)) ((["names", "text", "wants", "asked", "room"] : List Str) ++ (["m", "all_parts", "full", "told", "error", "formal", "parts"] : List Str)) ([] : List Str) := ⟨rfl, by decide +kernel, by decide +kernel, by decide +kernel, by decide +kernel⟩
theorem bod_hand (P : PC C f) : SndS C 5 (fnSc (stTop 49)) ((["names", "text", "wants", "asked", "room"] : List Str) ++ (["m", "all_parts", "full", "told", "error", "formal", "parts"] : List Str)) (tryHB ((fnB (stTop 49)).getD 3 (.Pass ⟨0, 0, 0, 0⟩))) d_hand := by
 have S := S_hand
 unfold d_hand
 refine .cons ?_ ?_
 refine .assign S 10 rfl (fun _ => rfl) ?_
 refine .item (fun _ _ => rfl) ?_ ?_
 refine .item (fun _ _ => rfl) ?_ ?_
 refine .ball P.ball (fun _ _ => rfl) ?_
 exact .var S 9 rfl
 exact .cint
 exact .cint
 refine .cons ?_ ?_
 refine .ret ?_
 refine .and2 ?_ ?_
 exact .var S 7 rfl
 refine .cmp rfl ?_ ?_
 exact .var S 10 rfl
 refine .tup ?_
 refine .cons (SR rfl) ?_ ?_
 exact .cstr (by decide +kernel)
 refine .cons (SR rfl) ?_ ?_
 refine .meth (c := 0) (by decide) (fun _ _ => rfl) (by decide) rfl (P.m 5) (P.isf 6) (by decide +kernel) (P.kf 6) (snd_sy_func P) (by decide) ?_ ?_
 exact .var S 0 rfl
 refine .cons (SR rfl) ?_ ?_
 exact .cstr (by decide +kernel)
 refine .cons (SR rfl) ?_ ?_
 exact .cint
 exact .nil
 refine .cons (SR rfl) ?_ ?_
 refine .tup ?_
 refine .cons (SR rfl) ?_ ?_
 refine .tup ?_
 refine .cons (SR rfl) ?_ ?_
 exact .cstr (by decide +kernel)
 refine .cons (SR rfl) ?_ ?_
 refine .meth (c := 0) (by decide) (fun _ _ => rfl) (by decide) rfl (P.m 3) (P.isf 4) (by decide +kernel) (P.kf 4) (snd_sy_atom P) (by decide) ?_ ?_
 exact .var S 0 rfl
 refine .cons (SR rfl) ?_ ?_
 exact .cstr (by decide +kernel)
 exact .nil
 exact .nil
 exact .nil
 exact .nil
 exact .nil
theorem S_law_cases_right : FnS (fnSc (stTop 50)) ((["text"] : List Str) ++ (["up", "low", "smalls", "capitals", "spot", "one"] : List Str)) (["upper_text", "lower_text", "len", "range"] : List Str) := ⟨rfl, by decide +kernel, by decide +kernel, by decide +kernel, by decide +kernel⟩
theorem bod_law_cases_right (P : PC C f) : SndS C 14 (fnSc (stTop 50)) ((["text"] : List Str) ++ (["up", "low", "smalls", "capitals", "spot", "one"] : List Str)) (fnB (stTop 50)) d_law_cases_right := by
 have S := S_law_cases_right
 unfold d_law_cases_right
 refine .cons ?_ ?_
 refine .assign S 1 rfl (fun _ => rfl) ?_
 refine .callFn S 0 rfl (P.gf 8) (.of_K (P.kf 28)) (snd_upper_text P) (by decide) ?_
 refine .cons (SR rfl) ?_ ?_
 exact .var S 0 rfl
 exact .nil
 refine .cons ?_ ?_
 refine .assign S 2 rfl (fun _ => rfl) ?_
 refine .callFn S 1 rfl (P.gf 9) (.of_K (P.kf 29)) (snd_lower_text P) (by decide) ?_
 refine .cons (SR rfl) ?_ ?_
 exact .var S 0 rfl
 exact .nil
 refine .cons ?_ ?_
 refine .if_ ?_ ?_ ?_
 refine .bool ?_
 refine .or_cons ?_ ?_
 refine .cmp rfl ?_ ?_
 refine .callBi (bi := "len") S 2 rfl (P.non 0) rfl (by decide) bi_len ?_
 refine .cons (SR rfl) ?_ ?_
 exact .var S 1 rfl
 exact .nil
 refine .callBi (bi := "len") S 2 rfl (P.non 0) rfl (by decide) bi_len ?_
 refine .cons (SR rfl) ?_ ?_
 exact .var S 0 rfl
 exact .nil
 refine .or_cons ?_ ?_
 refine .cmp rfl ?_ ?_
 refine .callBi (bi := "len") S 2 rfl (P.non 0) rfl (by decide) bi_len ?_
 refine .cons (SR rfl) ?_ ?_
 exact .var S 2 rfl
 exact .nil
 refine .callBi (bi := "len") S 2 rfl (P.non 0) rfl (by decide) bi_len ?_
 refine .cons (SR rfl) ?_ ?_
 exact .var S 0 rfl
 exact .nil
 exact .or_nil
 refine .cons ?_ ?_
 refine .ret ?_
 exact .cbool
 exact .nil
 exact .nil
 refine .cons ?_ ?_
 refine .assign S 3 rfl (fun _ => rfl) ?_
 exact .cstr (by decide +kernel)
 refine .cons ?_ ?_
 refine .assign S 4 rfl (fun _ => rfl) ?_
 exact .cstr (by decide +kernel)
 refine .cons ?_ ?_
 refine .forR (by decide) S 3 rfl (P.non 9) TgtName.name (gName_chk 5) ?_ ?_ ?_
 refine .cons (SR rfl) ?_ ?_
 refine .callBi (bi := "len") S 2 rfl (P.non 0) rfl (by decide) bi_len ?_
 refine .cons (SR rfl) ?_ ?_
 exact .var S 0 rfl
 exact .nil
 exact .nil
 exact .name S 5 rfl
 refine .cons ?_ ?_
 refine .assign S 6 rfl (fun _ => rfl) ?_
 refine .item (fun _ _ => rfl) ?_ ?_
 exact .var S 0 rfl
 exact .var S 5 rfl
 refine .cons ?_ ?_
 refine .if_ ?_ ?_ ?_
 refine .cmp rfl ?_ ?_
 refine .item (fun _ _ => rfl) ?_ ?_
 exact .var S 1 rfl
 exact .var S 5 rfl
 refine .ifexp ?_ ?_ ?_
 refine .cmp rfl ?_ ?_
 exact .var S 6 rfl
 exact .var S 3 rfl
 refine .item (fun _ _ => rfl) ?_ ?_
 exact .var S 4 rfl
 refine .methB .str (fun _ _ => rfl) (by decide) rfl PySem.F.plainAttrs_str PySem.F.slot_str_index PySem.F.type_str_index (bi_index (by decide)) ?_ ?_
 exact .var S 3 rfl
 refine .cons (SR rfl) ?_ ?_
 exact .var S 6 rfl
 exact .nil
 exact .var S 6 rfl
 refine .cons ?_ ?_
 refine .ret ?_
 exact .cbool
 exact .nil
 exact .nil
 refine .cons ?_ ?_
 refine .if_ ?_ ?_ ?_
 refine .cmp rfl ?_ ?_
 refine .item (fun _ _ => rfl) ?_ ?_
 exact .var S 2 rfl
 exact .var S 5 rfl
 refine .ifexp ?_ ?_ ?_
 refine .cmp rfl ?_ ?_
 exact .var S 6 rfl
 exact .var S 4 rfl
 refine .item (fun _ _ => rfl) ?_ ?_
 exact .var S 3 rfl
 refine .methB .str (fun _ _ => rfl) (by decide) rfl PySem.F.plainAttrs_str PySem.F.slot_str_index PySem.F.type_str_index (bi_index (by decide)) ?_ ?_
 exact .var S 4 rfl
 refine .cons (SR rfl) ?_ ?_
 exact .var S 6 rfl
 exact .nil
 exact .var S 6 rfl
 refine .cons ?_ ?_
 refine .ret ?_
 exact .cbool
 exact .nil
 exact .nil
 exact .nil
 refine .cons ?_ ?_
 refine .ret ?_
 refine .and2 ?_ ?_
 refine .cmp rfl ?_ ?_
 refine .callFn S 1 rfl (P.gf 9) (.of_K (P.kf 29)) (snd_lower_text P) (by decide) ?_
 refine .cons (SR rfl) ?_ ?_
 exact .var S 1 rfl
 exact .nil
 exact .var S 2 rfl
 refine .cmp rfl ?_ ?_
 refine .callFn S 0 rfl (P.gf 8) (.of_K (P.kf 28)) (snd_upper_text P) (by decide) ?_
 refine .cons (SR rfl) ?_ ?_
 exact .var S 2 rfl
 exact .nil
 exact .var S 1 rfl
 exact .nil
theorem snd_law_cases_right (P : PC C f) : FnSnd C 15 (.ref (f 42)) sp_law_cases_right := by
 unfold sp_law_cases_right
 refine FnSnd.of_body (n := 14) (gn := (["upper_text", "lower_text", "len", "range"] : List Str)) (["text"] : List Str) (["up", "low", "smalls", "capitals", "spot", "one"] : List Str) 1 [] P.lim (P.fn 42) S_law_cases_right ?_ ?_ ?_ ?_ ?_
 exact rfl
 exact bod_law_cases_right P
 decide +kernel
 exact rfl
 exact rfl
theorem snd_cSymbols (P : PC C f) : FnSnd C 14 (.ref (C.cls 0)) sp_cSymbols := mk_snd P.mk0 (P.m 0) (P.isf 3) (snd_sy_init P)
end
end Mine
end
section
open PySem PySem.W PySem.Calls PyProof.Rows
namespace Mine
noncomputable def DictAt (h : Heap) (b : Addr) : Prop := ∃ o es ep, h.get? b = some o ∧ o.data = .dict es ep
theorem DictAt.noFields {h : Heap} {b : Addr} (x : DictAt h b) : ∃ o, h.get? b = some o ∧ ∀ vs, o.data ≠ .fields vs := by
 obtain ⟨o, es, ep, h1, h2⟩ := x
 exact ⟨o, h1, fun vs q => by rw [h2] at q; cases q⟩
theorem DictAt.noTup {h : Heap} {b : Addr} (x : DictAt h b) : ∀ vs k, h.get? b ≠ some (tupObj vs k) := by
 obtain ⟨o, es, ep, h1, h2⟩ := x
 intro vs k q
 rw [h1] at q; cases q; cases h2
theorem DictAt.of_fr {h₀ h : Heap} {L : Addr} {m : Str → Option Value} (F : Fr h₀ L h m) : DictAt h L := by
 obtain ⟨o, es, ep, h1, h2, _⟩ := F.ns
 exact ⟨o, es, ep, h1, h2⟩
structure Low (C : Ctx) (ad : Adr) (h : Heap) (S : List Addr) (l : List Env) : Prop where
 envs : ∀ env ∈ l, env.scope.kind ≠ .module ∧ ∃ L, env.frame = some L ∧ L ∈ S
 objs : ∀ b ∈ S, ¬ Touch ad b ∧ C.h₀.get? b = none ∧ DictAt h b
theorem Low.frS {C : Ctx} {ad : Adr} {h : Heap} {S : List Addr} {l : List Env} (X : Low C ad h S l) : FrS h S l := fun env he => by
 obtain ⟨h1, L, h2, h3⟩ := X.envs env he
 obtain ⟨o, h4, h5⟩ := (X.objs L h3).2.2.noFields
 exact ⟨h1, L, o, h2, h3, h4, h5⟩
theorem Low.ext {C : Ctx} {ad ad' : Adr} {h h' : Heap} {S : List Addr} {l : List Env} (X : Low C ad h S l) {ex : List Addr} (x : Ext ad ex h ad' h') (hex : ∀ b ∈ S, b ∉ ex) : Low C ad' h' S l :=
 ⟨X.envs, fun b hb => by
  obtain ⟨h1, h2, o, es, ep, h3, h4⟩ := X.objs b hb
  obtain ⟨l', e, hl⟩ := x.more
  exact ⟨e ▸ not_touch_new hl h3 h1, h2, o, es, ep, x.keep b o h3 h1 (hex b hb), h4⟩⟩
theorem Low.push {C : Ctx} {nm : List Str} {L : Addr} {ad : Adr} {fr : Frame} {σ : Store} {h : Heap} {S : List Addr} {l : List Env} {env : Env} (X : Low C ad h S l) (R : RF C nm L h ad fr σ) (hf : env.frame = some L) (hk : env.scope.kind ≠ .module) (h0 : C.h₀.get? L = none) : Low C ad h (L :: S) (env :: l) := by
 obtain ⟨m, F, _⟩ := R.fr
 refine ⟨fun env' he => ?_, fun b hb => ?_⟩
 · rcases List.mem_cons.mp he with rfl | he
   · exact ⟨hk, L, hf, .head _⟩
   · obtain ⟨a, L', b, c⟩ := X.envs env' he
     exact ⟨a, L', b, .tail _ c⟩
 · rcases List.mem_cons.mp hb with rfl | hb
   · exact ⟨R.off, h0, .of_fr F⟩
   · exact X.objs b hb
theorem ground_new {C : Ctx} {ad : Adr} {σ : Store} {h : Heap} (S : SIn C ad σ h) : C.h₀.get? h.objs.size = none := S.ground (push_new h)
section
variable {C : Ctx} {f : Nat → Addr}
theorem sub_raises (P : PC C f) {A : Around} {s : Shared} {ad : Adr} {σ σ' : Store} {vs : List Value} {avs : List AV} {R : Result → Shared → Prop} {outer : List Env} {k : Nat} {fr' : Frame} {fs : List (Nat × AV)} {S : List Addr}
 (ro : Room 25 A) (Si : SIn C ad σ s.heap) (hz : C.h₀.objs.size ≤ s.heap.objs.size) (i : VAll ad s.heap vs avs) (hl : avs.length = 6) (hfr : A.frames = some outer) (X : Low C ad s.heap S outer)
 (hd : d_sub_atom_rows (avs.map some ++ List.replicate 10 none) σ = .exc (.loc k) fr' σ') (hk : σ'[k]? = some (.exc true 1 fs))
 (o : ∀ h t ad' hr p, ad'[k]? = some p → SIn C ad' σ' hr → Ext ad [] s.heap ad' hr → Low C ad' hr (s.heap.objs.size :: S) outer → Fly (s.heap.objs.size :: S) p.1 p.2 (C.cls 1) .none hr h → R (.error (.ref p.1)) { s with heap := h, toks := t }) :
 codeAny (model C.prog C.w) A (.call (.ref (f 31)) ⟨vs, []⟩) R s := by
 have XK := Si.inK
 have hvl : vs.length = 6 := by rw [i.length]; exact hl
 have SS := S_sub_atom_rows
 have hcell : ∀ x ∈ (fnSc (stTop 38)).names, x.2 ≠ .cell := by decide +kernel
 refine (P.fn 31).call SS hcell rfl rfl (by have := ro.depth; tb_rel) XK (C.T.nolimit.keeps Si.keep) hvl fun qual cdv dvs h₁ hdv ns kk env henv => ?_
 cases hdv ad s.heap
 have i2 : VAll ad s.heap (vs ++ []) avs := by rw [List.append_nil]; exact i
 have R1 := entry (C := C) hz (push_new s.heap) Si i2 SS.nodup (by rw [hl]; rfl) ns kk
 have n0 : s.heap.get? s.heap.objs.size = none := push_new s.heap
 subst henv
 generalize hA : A.deeper (envX qual (fnSc (stTop 38)) s.heap.objs.size (f 31) cdv []) = A1
 have ro1 : RoomL C 24 A1 s.heap.objs.size [] := ⟨⟨by
  subst hA
  have := ro.depth
  show A.depth + 1 + 24 < recursionLimit
  tb_rel, by
  subst hA
  have := ro.units
  show A.units + 3 + 20 * 24 + 200 < cLine
  tb_rel, fun q => by subst hA; exact ro.quiet (by tb_rel)⟩, P.lim _ _ _⟩
 have hfr1 : A1.frames = some (envX qual (fnSc (stTop 38)) s.heap.objs.size (f 31) cdv [] :: outer) := by
  subst hA
  show A.frames.map _ = _
  rw [hfr]; rfl
 refine bod_sub_atom_rows P _ qual s.heap.objs.size (f 31) cdv [] _ ad (avs.map some ++ List.replicate 10 none) σ _ _ ro1 R1 ?_
 rw [hd]
 intro v h t ad' R2 x2 iv
 have x3 : Ext ad [] s.heap ad' h := Ext.drop ((Ext.keeps kk).trans x2) n0
 obtain ⟨p, hp, rfl⟩ := iv.loc_inv
 obtain ⟨⟨ws, g, hr⟩, _⟩ := R2.st.at hp hk
 obtain ⟨tt, rfl⟩ := hr rfl
 have X2 := X.ext x3 (fun b _ => by simp)
 have X3 := X2.push R2 (env := envX qual (fnSc (stTop 38)) s.heap.objs.size (f 31) cdv []) rfl (by rw [show (envX qual (fnSc (stTop 38)) s.heap.objs.size (f 31) cdv []).scope.kind = .function from SS.kind]; decide) (ground_new Si)
 have heS : p.1 ∉ s.heap.objs.size :: S := fun q => (X3.objs _ q).1 ⟨p, List.mem_of_getElem? hp, .inl rfl⟩
 exact leaving_new (s := { s with heap := h, toks := t }) hfr1 rfl X3.frS heS g rfl fun h' Y => o h' t ad' h p hp R2.st x3 ⟨fun env he => by
  obtain ⟨a, L', b, c⟩ := X2.envs env he
  exact ⟨a, L', b, .tail _ c⟩, X3.objs⟩ Y
end
end Mine
end
section
open PySem PySem.W PySem.Calls PyProof.Rows
namespace Mine
theorem Ext.wider {ad ad' : Adr} {ex ex' : List Addr} {h h' : Heap} (x : Ext ad ex h ad' h') (k : ∀ b, b ∉ ex' → b ∉ ex) : Ext ad ex' h ad' h' := ⟨x.more, fun b o e ht hb => x.keep b o e ht (k b hb), x.tups, x.grow⟩
theorem Ext.less {ad ad' : Adr} {ex ex' : List Addr} {h h' : Heap} (x : Ext ad ex h ad' h') (k : ∀ b, b ∈ ex → b ∉ ex' → h.get? b = Option.none) : Ext ad ex' h ad' h' :=
 ⟨x.more, fun b o e ht hb => x.keep b o e ht (fun q => by rw [k b q hb] at e; cases e), x.tups, x.grow⟩
section
variable {C : Ctx} {nm : List Str} {L : Addr} {hr h : Heap} {ad : Adr} {fr : Frame} {σ : Store} {S : List Addr} {p : Addr × Addr} {fl : Value} {k : Nat} {fs : List (Nat × AV)}
theorem Ext.fly (hp : p ∈ ad) (hS : ∀ b ∈ S, ¬ Touch ad b ∧ C.h₀.get? b = Option.none ∧ DictAt hr b) (T1 : ∀ vs k, hr.get? p.1 ≠ some (tupObj vs k)) (Y : Fly S p.1 p.2 (C.cls 1) fl hr h) : Ext ad S hr ad h :=
 ⟨⟨[], (List.append_nil _).symm, fun _ hp => nomatch hp⟩, fun b o e ht hb => Y.other b o e hb fun q => ht ⟨p, hp, .inl q⟩,
  fun b vs n e => Y.other b _ e (fun q => (hS b q).2.2.noTup _ _ e) fun q => T1 vs n (q ▸ e),
  Y.toKp.grow (let ⟨vs, T, oT, ts, z, _⟩ := Y.at_; ⟨_, z⟩)⟩
theorem ns_slots {h h' : Heap} {L : Addr} {m : Str → Option Value} (hn : h.Ns L m) (k : ∀ o, h.get? L = some o → ∃ sl, h'.get? L = some { o with slots := sl }) : h'.Ns L m := by
 obtain ⟨o, es, ep, ho, hd, r⟩ := hn
 obtain ⟨sl, hs⟩ := k o ho
 exact ⟨_, es, ep, hs, hd, r⟩
theorem RF.fly (R : RF C nm L hr ad fr σ) (hp : ad[k]? = some p) (hk : σ[k]? = some (.exc true 1 fs)) (hL : L ∈ S) (hS : ∀ b ∈ S, ¬ Touch ad b ∧ C.h₀.get? b = none ∧ DictAt hr b) (Y : Fly S p.1 p.2 (C.cls 1) fl hr h) :
 RF C nm L h ad fr (σ.set k (.exc false 1 fs)) ∧ Ext ad S hr ad h := by
 have hpm : p ∈ ad := List.mem_of_getElem? hp
 obtain ⟨⟨ws, g, hws⟩, des, n, gd, r⟩ := R.st.at hp hk
 have T1 : ∀ vs k, hr.get? p.1 ≠ some (tupObj vs k) := fun vs k q => by rw [g] at q; cases q
 have ne : p.2 ≠ p.1 := fun q => by rw [q, g] at gd; cases gd
 have x := Ext.fly hpm hS T1 Y
 obtain ⟨m, F, hm⟩ := R.fr
 obtain ⟨vs', T, oT, ts, he, _⟩ := Y.at_
 have nS : ∀ (i : Nat) (q : Addr × Addr), ad[i]? = some q → q.1 ∉ S ∧ q.2 ∉ S := fun i q e => ⟨fun z => (hS _ z).1 ⟨q, List.mem_of_getElem? e, .inl rfl⟩, fun z => (hS _ z).1 ⟨q, List.mem_of_getElem? e, .inr rfl⟩⟩
 have keep : ∀ b o, C.h₀.get? b = some o → h.get? b = some o := fun b o e => Y.other b o (R.st.keep b o e) (fun z => by rw [(hS _ z).2.1] at e; cases e) fun z => by rw [z, (R.st.new p hpm).1] at e; cases e
 refine ⟨⟨⟨by rw [List.length_set]; exact R.st.len, fun i q ob e1 e2 => ?_, R.st.apart, R.st.new, keep, R.st.pin⟩, ⟨m, ⟨ns_slots F.ns fun o e => Y.slots L o e hL, keep, F.above⟩, fun i av e => ?_⟩, R.off⟩, x⟩
 · by_cases ik : k = i
   · subst ik
     rw [hp] at e1; cases e1
     rw [List.getElem?_set_self (by have := (List.getElem?_eq_some_iff.mp hk).1; exact this)] at e2
     cases e2
     exact ⟨⟨vs', he, fun q => by cases q⟩, des, n, Y.other _ _ gd (nS k p hp).2 ne, r.mono (fun _ _ e => e) x.tups⟩
   · rw [List.getElem?_set_ne ik] at e2
     have ap := apart_ne R.st.apart e1 hp (Ne.symm ik)
     exact (R.st.obj i q ob e1 e2).mono (fun _ _ e => e) x.tups (fun o e => Y.other _ o e (nS i q e1).1 ap.1) fun o e => Y.other _ o e (nS i q e1).2 ap.2.2.1
 · obtain ⟨y, v, h1, h2, h3⟩ := hm i av e
   exact ⟨y, v, h1, h2, x.val h3⟩
end
noncomputable def toRet : SRes → Res AV
 | .ok (.ret v) _ σ => .ok v σ
 | _ => .stuck
noncomputable def rowsX : Spec := fun avs σ => if avs.length = 5 then (match d_rr0 (avs.map some ++ List.replicate 7 none) σ with
 | .ok .next fr σ => (match d_rr1 fr σ with
  | .ok .next fr σ => (match d_rr2 fr σ with
   | .ok .next fr σ => (match (DV 5 fr σ) with
    | .ok (.loc j) σ => (match σ[j]? with
     | some (.inst 3 _) => (match l_rr fr σ with
      | .ok as σ => if as.length = 6 then (match d_sub_atom_rows (as.map some ++ List.replicate 10 none) σ with
       | .exc (.loc k) _ σ => (match σ[k]? with
        | some (.exc true 1 fs) => toRet (d_hand (fr.set 9 (some (.loc k))) (σ.set k (.exc false 1 fs)))
        | _ => .stuck)
       | _ => .stuck) else .stuck
      | _ => .stuck)
     | _ => .stuck)
    | _ => .stuck)
   | _ => .stuck)
  | _ => .stuck)
 | _ => .stuck) else .stuck
structure ExtS (L : Addr) (ad : Adr) (h : Heap) (ad' : Adr) (h' : Heap) : Prop where
 ext : Ext ad [L] h ad' h'
 slots : ∀ o, h.get? L = some o → ∃ sl, h'.get? L = some { o with slots := sl }
noncomputable def OutFX (C : Ctx) (L : Addr) (s : Shared) (ad : Adr) (R : Result → Shared → Prop) (r : Res AV) : Prop := match r with
 | .ok a σ' => ∀ v h t ad', SIn C ad' σ' h → ExtS L ad s.heap ad' h → VIn ad' h v a → R (.ok (.ret v)) { s with heap := h, toks := t }
 | _ => False
noncomputable def FnSndX (C : Ctx) (n : Nat) (f : Value) (spec : Spec) : Prop :=
 ∀ (A : Around) (s : Shared) (ad : Adr) (σ : Store) (vs : List Value) (avs : List AV) (R : Result → Shared → Prop) (env : Env) (L : Addr),
  Room n A → A.frames = some [env] → env.frame = some L → env.scope.kind ≠ .module → C.h₀.get? L = none → ¬ Touch ad L → DictAt s.heap L →
  SIn C ad σ s.heap → C.h₀.objs.size ≤ s.heap.objs.size → VAll ad s.heap vs avs → OutFX C L s ad R (spec avs σ) → codeAny (model C.prog C.w) A (.call f ⟨vs, []⟩) R s
section
variable {C : Ctx} {n : Nat} {sc : Scope} {nm gn : List Str}
theorem step_next {A : Around} {qn : Str} {L f : Addr} {cd : Value} {cl : List (Str × Addr)} {s : Shared} {ad : Adr} {fr fr1 : Frame} {σ σ1 : Store} {Q : Flow → Shared → Prop} {E : Value → Shared → Prop} {st : Stmt} {rest : List Stmt} {d : DS}
 (hd : SndT C n sc nm st d) (e : d fr σ = .ok .next fr1 σ1) (ro : RoomL C n A L cl) (R : RF C nm L s.heap ad fr σ)
 (k : ∀ h t ad', RF C nm L h ad' fr1 σ1 → Ext ad [L] s.heap ad' h → wpAny (model C.prog C.w) A (execs rest (envX qn sc L f cd cl)) Q E { s with heap := h, toks := t }) :
 wpAny (model C.prog C.w) A (execs (st :: rest) (envX qn sc L f cd cl)) Q E s := by
 refine wpAny_execs_cons (wpAny_mono (hd A qn L f cd cl s ad fr σ (fun f' s' => f' = .next ∧ wpAny (model C.prog C.w) A (execs rest (envX qn sc L f cd cl)) Q E s') (fun _ _ => False) ro R ?_) (fun f' s' q => ?_) (fun _ _ y => y.elim))
 · rw [e]
   intro f' h t ad' R' x i
   cases f' <;> first | exact i.elim | exact ⟨rfl, k h t ad' R' x⟩
 · obtain ⟨rfl, q⟩ := q; exact q
end
end Mine
end
section
open PySem PySem.W PySem.Calls PyProof.Rows
namespace Mine
theorem SIn.stepAt {C : Ctx} {h h' : Heap} {ad : Adr} {σ : Store} {I : Addr} (S : SIn C ad σ h) (hI : ¬ Touch ad I) (h0 : C.h₀.get? I = none) (hd : DictAt h I) (sb : Heap.SameBut I h h') (hd' : DictAt h' I) : SIn C ad σ h' ∧ Ext ad [I] h ad h' := by
 have k := sameBut_keeps sb
 have nt : ∀ (i : Nat) (p : Addr × Addr), ad[i]? = some p → p.1 ≠ I ∧ p.2 ≠ I := fun i p e => ⟨fun q => hI ⟨p, List.mem_of_getElem? e, .inl q.symm⟩, fun q => hI ⟨p, List.mem_of_getElem? e, .inr q.symm⟩⟩
 have tk : ∀ a vs n, h.get? a = some (tupObj vs n) → h'.get? a = some (tupObj vs n) := fun a vs n e => k a _ e fun q => hd.noTup vs n (q ▸ e)
 have ki : ∀ b o, C.h₀.get? b = some o → b ≠ I := fun b o e q => by rw [q, h0] at e; cases e
 refine ⟨⟨S.len, fun i p o e1 e2 => (S.obj i p o e1 e2).mono (fun _ _ e => e) tk (fun o e => k _ o e (nt i p e1).1) fun o e => k _ o e (nt i p e1).2, S.apart, S.new, fun b o e => k b o (S.keep b o e) (ki b o e), S.pin⟩,
  ⟨⟨[], (List.append_nil _).symm, fun _ hp => nomatch hp⟩, fun b o e _ hb => k b o e (by simpa using hb), tk, fun b o e => ?_⟩⟩
 by_cases q : b = I
 · subst q; obtain ⟨o', _, _, z, _⟩ := hd'; exact ⟨o', z⟩
 · exact ⟨o, k b o e q⟩
section
variable {C : Ctx} {f : Nat → Addr}
set_option maxHeartbeats 1000000 in
set_option tactic.hygienic true in
theorem rows_exc (P : PC C f) : FnSndX C 31 (.ref (f 41)) rowsX := by
 intro A s ad σ vs avs R env0 L0 ro hfr hf0 hk0 hL0 hT0 hD0 Si hz i o
 unfold rowsX at o
 split at o
 case isFalse => exact o.elim
 rename_i hlen
 have XK := Si.inK
 have hvl : vs.length = 5 := by rw [i.length]; exact hlen
 have SS := S_law_rows_right
 have hcell : ∀ x ∈ (fnSc (stTop 49)).names, x.2 ≠ .cell := by decide +kernel
 refine (P.fn 41).call SS hcell rfl rfl (by have := ro.depth; tb_rel) XK (C.T.nolimit.keeps Si.keep) hvl fun qual cdv dvs h₁ hdv ns kk env henv => ?_
 cases hdv ad s.heap
 have i2 : VAll ad s.heap (vs ++ []) avs := by rw [List.append_nil]; exact i
 have R1 := entry (C := C) hz (push_new s.heap) Si i2 SS.nodup (by rw [hlen]; rfl) ns kk
 have n0 : s.heap.get? s.heap.objs.size = none := push_new s.heap
 subst henv
 generalize hA : A.deeper (envX qual (fnSc (stTop 49)) s.heap.objs.size (f 41) cdv []) = A1
 have ro1 : RoomL C 30 A1 s.heap.objs.size [] := ⟨⟨by
  subst hA
  have := ro.depth
  show A.depth + 1 + 30 < recursionLimit
  tb_rel, by
  subst hA
  have := ro.units
  show A.units + 3 + 20 * 30 + 200 < cLine
  tb_rel, fun q => by subst hA; exact ro.quiet (by tb_rel)⟩, P.lim _ _ _⟩
 have hfr1 : A1.frames = some [envX qual (fnSc (stTop 49)) s.heap.objs.size (f 41) cdv [], env0] := by
  subst hA
  show A.frames.map _ = _
  rw [hfr]; rfl
 have low0 : Low C ad s.heap [L0] [env0] := ⟨fun env he => by rw [List.mem_singleton.mp he]; exact ⟨hk0, L0, hf0, .head _⟩, fun b hb => by rw [List.mem_singleton.mp hb]; exact ⟨hT0, hL0, hD0⟩⟩
 have hL1 : C.h₀.get? s.heap.objs.size = none := ground_new Si
 have hne : L0 ≠ s.heap.objs.size := fun q => by
  refine Classical.byContradiction fun hG => ?_
  obtain ⟨oo, _, _, z, _⟩ := hD0
  refine hG ?_
  rw [q, n0] at z; cases z
 clear hA
 split at o
 case h_2 => exact o.elim
 rename_i fr1 σ1 e1
 split at o
 case h_2 => exact o.elim
 rename_i fr2 σ2 e2
 split at o
 case h_2 => exact o.elim
 rename_i fr3 σ3 e3
 split at o
 case h_2 => exact o.elim
 rename_i j σ4 e4
 split at o
 case h_2 => exact o.elim
 rename_i fsj e5
 split at o
 case h_2 => exact o.elim
 rename_i as σ5 e6
 split at o
 case isFalse => exact o.elim
 rename_i hlen6
 split at o
 case h_2 => exact o.elim
 rename_i k frk σ6 e7
 split at o
 case h_2 => exact o.elim
 rename_i fs e8
 show wpAny (model C.prog C.w) A1 (execs (fnB (stTop 49)) (envX qual (fnSc (stTop 49)) s.heap.objs.size (f 41) cdv [])) _ _ _
 refine step_next (bod_rr0 P) e1 ro1 R1 fun h2 t2 ad2 R2 x2 => ?_
 refine step_next (bod_rr1 P) e2 ro1 R2 fun h3 t3 ad3 R3 x3 => ?_
 refine step_next (bod_rr2 P) e3 ro1 R3 fun h4 t4 ad4 R4 x4 => ?_
 refine wpAny_execs_cons (wpAny_Try_except ?_)
 refine wpAny_execs_cons (wpAny_Assign_Name ?_ rfl)
 refine wpAny_methodCall (fun _ _ => rfl) rfl (by decide) rfl (SndE.var SS 5 rfl A1 qual s.heap.objs.size (f 41) cdv [] _ ad4 fr3 σ3 _ _ ro1 R4 ?_)
 rw [e4]
 intro v5 h5 t5 ad5 R5 x5 i5
 obtain ⟨p5, hp5, rfl⟩ := i5.loc_inv
 obtain ⟨m5, F5, _⟩ := id R5.fr
 refine Classical.byContradiction fun hG => ?_
 obtain ⟨des, w5, I5, g5, r5⟩ := attr_inst R5.st hp5 e5
 refine hG ?_
 refine method_inst F5 C.X I5 ((C.clsOk 3 (by decide)).get _) (P.m 21) (P.isf 35) (r5.none (by decide +kernel)) ?_
 refine callWith_of (P := C.K.In) rfl (KeepOk.of_K (P.kf 35)) (evalArgs_bare rfl (wpAny_items_cons ?_ rfl))
 refine wpAny_Call_NameR (Name_function_global SS.kind (SS.glob _ (by decide)) (loadGlobal_global (C.T.g.keeps F5.keep) (P.gf 11) ?_) (SS.debug _ (by decide)))
 refine callWith_of (P := C.K.In) (Bool.or_eq_false_iff.mpr ⟨(bod_lrr P).bare _ _, rfl⟩) (KeepOk.of_K (P.kf 31)) (evalArgs_bare ((bod_lrr P).bare _ _) ((bod_lrr P).sem A1 qual s.heap.objs.size (f 41) cdv [] _ _ ad5 fr3 σ4 _ _ ro1 R5 ?_))
 rw [e6]
 intro v6 h6 t6 ad6 R6 x6 i6
 refine ⟨R6.st.inK, wpAny_call ?_⟩
 have xa : Ext ad [s.heap.objs.size] s.heap ad6 h6 := (Ext.keeps kk).trans (x2.trans (x3.trans (x4.trans (x5.trans x6))))
 have low6 := (low0.ext xa (fun b hb => by rw [List.mem_singleton.mp hb, List.mem_singleton]; exact hne)).push R6 (env := envX qual (fnSc (stTop 49)) s.heap.objs.size (f 41) cdv []) rfl (by rw [show (envX qual (fnSc (stTop 49)) s.heap.objs.size (f 41) cdv []).scope.kind = .function from SS.kind]; decide) hL1
 refine sub_raises P (s := { s with heap := h6, toks := t6 }) (ro1.toRoom.le (by decide)) R6.st R6.size i6 hlen6 hfr1 low6 e7 e8 fun h7 t7 ad7 hr p hp Sr xr lr Y => ?_
 show wpAny (model C.prog C.w) A1 (noteFrame (.ref p.1) (envX qual (fnSc (stTop 49)) s.heap.objs.size (f 41) cdv [])) _ _ _
 have Rr := R6.of_ext xr Sr
 refine Classical.byContradiction fun hG => ?_
 obtain ⟨⟨ws, ge, _⟩, _⟩ := Sr.at hp e8
 refine hG ?_
 have heS : p.1 ∉ [h6.objs.size, s.heap.objs.size, L0] := fun q => (lr.objs _ q).1 ⟨p, List.mem_of_getElem? hp, .inl rfl⟩
 refine note_fly (s := { s with heap := h7, toks := t7 }) hfr1 rfl lr.frS heS ⟨_, ge⟩ Y fun h8 Y8 => ?_
 refine fly_down (s := { s with heap := h8, toks := t7 }) ⟨_, ge⟩ Y8 fun h9 Y9 => ?_
 have Z9 := Rr.fly hp e8 (.tail _ (.head _)) lr.objs Y9
 obtain ⟨m9, F9, _⟩ := id Z9.1.fr
 refine Classical.byContradiction fun hG => ?_
 obtain ⟨vs9, T9, oT9, ts9, ge9, _⟩ := Y9.at_
 refine hG ?_
 refine Classical.byContradiction fun hG => ?_
 obtain ⟨nm', qn', N', bs', bm', hdct', sn', sub', ab', col', dd', k0', k1', k2', k3', k5', newId', hC', hbE', _⟩ := kts_cls C.X C.exc
 refine hG ?_
 refine wpAny_handleBy_cons (codeAny_handlers_test ?_) (by intro q; cases q)
 refine Name_function_global SS.kind (show (fnSc (stTop 49)).names.lookup ("PrologError" : Str) = some NameKind.globalImplicit from by decide +kernel) (loadGlobal_global (C.T.g.keeps F9.keep) (P.gc 1) ?_) (by decide +kernel)
 refine wpAny_excMatches_sub_self (F9.keep _ _ hC') ge9 rfl hbE' ?_
 refine codeAny_handlers_suite_as ?_
 refine fly_down (s := { s with heap := h9, toks := t7 }) ⟨_, ge⟩ Y9 fun h10 Y10 => ?_
 obtain ⟨R10, x10⟩ := Rr.fly hp e8 (.tail _ (.head _)) lr.objs Y10
 refine storeName_rule (s := { s with heap := h10, toks := t7 }) SS (i := 9) rfl R10 (.loc (p := p) (n := k) hp) fun h11 t11 R11 x11 => ?_
 have ro5 : RoomL C 5 (A1.mark (some (.ref p.1))) s.heap.objs.size [] := ⟨⟨by
  have := ro1.depth
  show A1.depth + 5 < recursionLimit
  tb_rel, by
  have := ro1.units
  show A1.units + 20 * 5 + 200 < cLine
  tb_rel, fun q => absurd q (by decide)⟩, P.lim _ _ _⟩
 refine bod_hand P _ qual s.heap.objs.size (f 41) cdv [] _ ad7 (fr3.set 9 (some (.loc k))) (σ6.set k (.exc false 1 fs)) _ _ ro5 R11 ?_
 generalize d_hand (fr3.set 9 (some (.loc k))) (σ6.set k (.exc false 1 fs)) = rh at o
 cases rh with
 | stuck => exact o.elim
 | exc a b c => exact o.elim
 | ok fl fr12 σ12 =>
  cases fl <;> first | exact o.elim | skip
  rename_i a12
  intro fl12 h12 t12 ad12 R12 x12 i12
  cases fl12 <;> first | exact i12.elim | skip
  rename_i v12
  obtain ⟨m12, F12, _⟩ := id R12.fr
  refine wpAny_nameGoes (show (fnSc (stTop 49)).names.lookup ("error" : Str) = some NameKind.local from by decide +kernel) F12.ns (by show (_ == _ || _) = false; rw [SS.kind]; rfl) fun h13 m13 ns13 sb13 => ?_
  have d12 : DictAt h12 s.heap.objs.size := .of_fr F12
  have d13 : DictAt h13 s.heap.objs.size := by
   refine Classical.byContradiction fun hG => ?_
   obtain ⟨oo, es, ep, z1, z2, _⟩ := ns13
   refine hG ?_
   exact ⟨oo, es, ep, z1, z2⟩
  obtain ⟨S13, x13⟩ := R12.st.stepAt R12.off hL1 d12 sb13 d13
  have xb : Ext ad7 [s.heap.objs.size] h10 ad12 h13 := x11.trans (x12.trans x13)
  have xt : Ext ad [h6.objs.size, s.heap.objs.size, L0] s.heap ad12 h13 := (xa.wider (fun b q z => q (by rw [List.mem_singleton.mp z]; exact .tail _ (.head _)))).trans ((xr.wider (by simp)).trans (x10.trans (xb.wider (fun b q z => q (by rw [List.mem_singleton.mp z]; exact .tail _ (.head _))))))
  have n6 : s.heap.get? h6.objs.size = none := xa.none (push_new h6)
  refine o v12 h13 _ ad12 S13 ⟨xt.less fun b hb hb0 => ?_, fun ob e0 => ?_⟩ (x13.val i12)
  · rcases List.mem_cons.mp hb with rfl | hb
    · exact n6
    · rcases List.mem_cons.mp hb with rfl | hb
      · exact n0
      · exact absurd hb hb0
  · have k6 := xa.keep L0 ob e0 hT0 (by rw [List.mem_singleton]; exact hne)
    have t6 := (low6.objs L0 (by simp)).1
    have kr := xr.keep L0 ob k6 t6 (by simp)
    obtain ⟨sl, z⟩ := Y10.slots L0 ob kr (by simp)
    exact ⟨sl, xb.keep L0 _ z (lr.objs L0 (by simp)).1 (by rw [List.mem_singleton]; exact hne)⟩
end
end Mine
end
section
open PySem PySem.W PySem.Calls PyProof.Rows
namespace Mine
noncomputable abbrev Ctx.with_ (C : Ctx) (lim : Around → Addr → List (Str × Addr) → Prop) (pin : List (Nat × Addr)) : Ctx := { C with lim := lim, pin := pin }
section
variable {C : Ctx} {lim : Around → Addr → List (Str × Addr) → Prop} {pin : List (Nat × Addr)} {n : Nat}
theorem OIn.with_ {ad : Adr} {h : Heap} {p : Addr × Addr} {o : AO} : OIn (C.with_ lim pin) ad h p o ↔ OIn C ad h p o := by
 cases o with
 | inst c fs =>
  constructor
  · rintro ⟨a, des, m, b, r⟩
    refine ⟨a, des, m, b, ?_⟩
    clear a b
    induction r with
    | nil => exact .nil
    | cons x y z _ ih => exact .cons x y z ih
  · rintro ⟨a, des, m, b, r⟩
    exact ⟨a, des, m, b, r⟩
 | _ => exact Iff.rfl
theorem SIn.to {ad : Adr} {σ : Store} {h : Heap} (S : SIn C ad σ h) (hp : ∀ q ∈ pin, ad[q.1]? = some (q.2, q.2)) : SIn (C.with_ lim pin) ad σ h :=
 ⟨S.len, fun i p o e1 e2 => OIn.with_.mpr (S.obj i p o e1 e2), S.apart, S.new, S.keep, hp⟩
theorem SIn.from {ad : Adr} {σ : Store} {h : Heap} (S : SIn (C.with_ lim pin) ad σ h) (hp : ∀ q ∈ C.pin, ad[q.1]? = some (q.2, q.2)) : SIn C ad σ h :=
 ⟨S.len, fun i p o e1 e2 => OIn.with_.mp (S.obj i p o e1 e2), S.apart, S.new, S.keep, hp⟩
theorem pin_ext {ad ad' : Adr} {ex : List Addr} {h h' : Heap} (x : Ext ad ex h ad' h') {P : List (Nat × Addr)} (hp : ∀ q ∈ P, ad[q.1]? = some (q.2, q.2)) : ∀ q ∈ P, ad'[q.1]? = some (q.2, q.2) := fun q hq => x.idx _ _ (hp q hq)
theorem FnSnd.with_ {f : Value} {spec : Spec} (hC : C.pin = []) (F : FnSnd C n f spec) : FnSnd (C.with_ lim pin) n f spec := by
 intro A s ad σ vs avs R ro S hz i o
 refine F A s ad σ vs avs R ro (S.from (by rw [hC]; intro q hq; cases hq)) hz i ?_
 generalize spec avs σ = r at o
 cases r with
 | ok a σ' => exact fun v h t ad' S' x iv => o v h t ad' (S'.to (pin_ext x S.pin)) x iv
 | exc a σ' => exact o
 | stuck => exact o
theorem FnSndX.with_ {f : Value} {spec : Spec} (hC : C.pin = []) (F : FnSndX C n f spec) : FnSndX (C.with_ lim pin) n f spec := by
 intro A s ad σ vs avs R env L ro h1 h2 h3 h4 h5 h6 S hz i o
 refine F A s ad σ vs avs R env L ro h1 h2 h3 h4 h5 h6 (S.from (by rw [hC]; intro q hq; cases hq)) hz i ?_
 generalize spec avs σ = r at o
 cases r with
 | ok a σ' => exact fun v h t ad' S' x iv => o v h t ad' (S'.to (pin_ext x.ext S.pin)) x iv
 | exc a σ' => exact o
 | stuck => exact o
end
noncomputable def dCell (j : Nat) : DE := fun fr σ => match σ[j]? with
 | some (.cell (some v)) => .ok v σ
 | _ => .stuck
noncomputable def gCell (j : Nat) : AV → Frame → Store → GRes := fun a fr σ => match σ[j]? with
 | some (.cell _) => some (fr, σ.set j (.cell (some a)))
 | _ => none
set_option tactic.hygienic true in
theorem gCell_chk (j : Nat) : GKeeps (gCell j) := fun fr σ x p e n xs q => by
 unfold gCell at e
 split at e
 · rename_i w ew
   cases e
   have ne : j ≠ n := fun z => by rw [z, q] at ew; cases ew
   show (σ.set j _)[n]? = _
   rw [List.getElem?_set_ne ne]; exact q
 · cases e
section
variable {C : Ctx} {n : Nat} {sc : Scope} {nm gn : List Str}
set_option tactic.hygienic true in
theorem SndE.cell {x : Str} {pos : Pos} {j : Nat} {c : Addr} (hk : sc.kind = .function) (hx : sc.names.lookup x = some .cell) (hl : ∀ A L cl, C.lim A L cl → cl.lookup x = some c) (hp : (j, c) ∈ C.pin) (hd : (x == ("__debug__" : Str)) = false) :
 SndE C n sc nm (.Name x pos) (dCell j) := by
 intro A qn L f cd cl s ad fr σ Q E ro R o
 unfold dCell at o
 split at o
 · rename_i v e
   have hj := R.st.pin _ hp
   obtain ⟨_, ob, w, g, d, r⟩ := R.st.at hj e
   obtain ⟨u, rfl, iu⟩ := r
   exact wpAny_Name (wpAny_loadName_cell (env := envX qn sc L f cd cl) hk hx (hl A L cl ro.lim) ⟨ob, g, d⟩ (OutX.here o R .refl iu)) hd
 · exact o.elim
set_option tactic.hygienic true in
theorem SndG.cell {x : Str} {pos : Pos} {j : Nat} {c : Addr} (hk : sc.kind = .function) (hx : sc.names.lookup x = some .cell) (hl : ∀ A L cl, C.lim A L cl → cl.lookup x = some c) (hp : (j, c) ∈ C.pin) : SndG C n sc nm (.Name x pos) (gCell j) := by
 intro A qn L f cd cl s ad fr σ v a Q E ro R i o
 unfold gCell at o
 split at o
 · rename_i w e
   have hj := R.st.pin _ hp
   obtain ⟨_, ob, w', g, d, _⟩ := R.st.at hj e
   refine wpAny_assign_Name (wpAny_storeName_cell (env := envX qn sc L f cd cl) hk hx (hl A L cl ro.lim) ⟨ob, g, d⟩ fun h' hv sb => ?_)
   obtain ⟨o', ho', hd'⟩ := hv
   have z := R.turn (ao := .cell (some a)) hj sb ⟨o', ho'⟩ ⟨rfl, o', some v, ho', hd', v, rfl, i.mono (fun _ _ e => e) (R.st.tupsBut hj sb)⟩
   exact o h' s.toks ad z.1 z.2
 · exact o.elim
end
end Mine
end
section
open PySem PySem.W PySem.Calls PyProof.Rows
namespace Mine
noncomputable def tupStr (k : Nat) : AV → Bool
 | .tup ys => (match ys[k]? with | some (.str _) => true | _ => false)
 | _ => false
noncomputable def tupIs (k : Nat) (t : List Nat) : AV → Bool
 | .tup ys => (match ys[k]? with | some (.str s) => decide (s = t) | _ => false)
 | _ => false
noncomputable def dComp (j k : Nat) (d : DE) : DE := fun fr σ => (d fr σ).bind fun a σ => match a with
 | .loc m => (match σ[m]?, σ[j]? with
  | some (.list xs), some (.cell (some (.str t))) => if xs.length ≤ 1000 ∧ xs.all (tupStr k) = true then .ok (.loc σ.length) (σ ++ [.list (xs.filter (tupIs k t))]) else .stuck
  | _, _ => .stuck)
 | _ => .stuck
noncomputable def pIs (h : Heap) (k : Nat) (t : List Nat) : Value → Bool
 | .ref a => (match h.get? a with
  | some ⟨_, _, .seq vs _, _⟩ => (match vs.toList[k]? with
   | some (.str s _) => decide (s = ⟨t.toArray⟩)
   | _ => false)
  | _ => false)
 | _ => false
set_option tactic.hygienic true in
theorem pIs_ok {ad : Adr} {h : Heap} {k : Nat} {t : List Nat} {v : Value} {x : AV} (i : VIn ad h v x) (hx : tupStr k x = true) :
 ∃ a vs m s u, v = .ref a ∧ h.get? a = some (tupObj (vs : List Value).toArray m) ∧ vs[k]? = some (.str ⟨(s : List Nat).toArray⟩ u) ∧ pIs h k t v = decide (s = t) ∧ tupIs k t x = decide (s = t) := by
 unfold tupStr at hx
 split at hx
 · rename_i ys
   split at hx
   · rename_i s e
     refine Classical.byContradiction fun hG => ?_
     obtain ⟨a, vs, m, rfl, g, r⟩ := i.tup_inv
     refine hG ?_
     refine Classical.byContradiction fun hG => ?_
     obtain ⟨z, hz, iz⟩ := r.get e
     refine hG ?_
     obtain ⟨u, rfl⟩ := iz.str_inv
     refine ⟨a, vs, m, s, u, rfl, g, hz, ?_, ?_⟩
     · have e1 : pIs h k t (.ref a) = decide ((⟨s.toArray⟩ : Str) = ⟨t.toArray⟩) := by
        unfold pIs
        simp only [g, hz]
       rw [e1, Bool.eq_iff_iff, decide_eq_true_eq, decide_eq_true_eq]
       exact ⟨fun q => by injection q with q; simpa using q, fun q => by rw [q]⟩
     · unfold tupIs
       simp only [e]
   · cases hx
 · cases hx
theorem VAll.filter {ad : Adr} {h : Heap} {p : Value → Bool} {q : AV → Bool} : ∀ {vs : List Value} {as : List AV}, VAll ad h vs as → (∀ v a, VIn ad h v a → a ∈ as → p v = q a) → VAll ad h (vs.filter p) (as.filter q)
 | _, _, .nil, _ => .nil
 | v :: _, a :: _, .cons x r, e => by
  have ih := r.filter fun v a i m => e v a i (.tail _ m)
  have e0 := e v a x (.head _)
  rw [List.filter_cons, List.filter_cons, e0]
  split
  · exact .cons x ih
  · exact ih
theorem paired_eq : ∀ {l₁ l₂ : List Value}, Paired (fun a b => b = a) l₁ l₂ → l₂ = l₁
 | _, _, .nil => rfl
 | _, _, .cons h t => by rw [h, paired_eq t]
section
variable {C : Ctx} {n : Nat} {sc : Scope} {nm gn : List Str}
set_option tactic.hygienic true in
theorem SndE.comp (hq : 10 ≤ n) {x y : Str} {px1 px2 px3 pc ps pk py pos : Pos} {iter : Expr} {kk : Nat} {k : Nat} {scope : Scope} {d : DE} {j : Nat} {c : Addr} {cl' : List (Str × Addr)} (hk : sc.kind = .function)
 (hclos : ∀ A L cl, C.lim A L cl → ∀ qn f cd, closureFor scope (envX qn sc L f cd cl) = pure cl') (hl : cl'.lookup y = some c) (hp : (j, c) ∈ C.pin)
 (hcell : ∀ z ∈ scope.names, z.2 ≠ .cell) (hkind : scope.kind = .function) (hnames : ∀ z ∈ scope.names, z.2 = .local → scope.names.lookup z.1 = some .local) (hx : scope.names.lookup x = some .local)
 (hy : ∀ L cl qn f cd D, (compEnvC scope cl' D (envX qn sc L f cd cl)).kindOf y = some .cell) (hdx : (x == ("__debug__" : Str)) = false) (hdy : (y == ("__debug__" : Str)) = false) (hs : ∀ env x, foldedSetIterable iter env x = pure x) (hkb : k < 1000) (hm : behindInMarks .Eq (.Name y py) = false)
 (he : SndE C n sc nm iter d) :
 SndE C n sc nm (.ListComp (.Name x px1) [⟨.Name x px2, iter, [.Compare (.Subscript (.Name x px3) (.Constant (.int (k : Nat)) kk pk) ps) [.Eq] [.Name y py] pc], 0⟩] scope pos) (dComp j k d) := by
 intro A qn L f cd cl s ad fr σ Q E ro R o
 have hcl := hclos A L cl ro.lim qn f cd
 suffices H : wpAny (model C.prog C.w) A (eval iter (envX qn sc L f cd cl)) (fun xv s₁ => ∃ m xs t, ∃ (vs : List Value) (w : Nat) (ax : Addr) (ad₁ : Adr) (σ₁ : Store), xv = .ref ax ∧ s₁ = { s with heap := s₁.heap, toks := s₁.toks } ∧ RF C nm L s₁.heap ad₁ fr σ₁ ∧ Ext ad [L] s.heap ad₁ s₁.heap ∧
  s₁.heap.get? ax = some (listOf vs.toArray w) ∧ VAll ad₁ s₁.heap vs xs ∧ σ₁[(m : Nat)]? = some (.list xs) ∧ σ₁[j]? = some (.cell (some (.str t))) ∧ xs.length ≤ 1000 ∧ xs.all (tupStr k) = true ∧ OutE C nm L s₁ ad₁ fr Q E (.ok (.loc σ₁.length) (σ₁ ++ [.list (xs.filter (tupIs k t))]))) E s by
  rw [eval_ListComp]
  refine wpAny_comprehension_free (use := none) rfl (hs _) hcl hkind hnames (wpAny_mono H (fun xv s₁ h₁ => ?_) fun _ _ e => e)
  refine Classical.byContradiction fun hG => ?_
  obtain ⟨m, xs, t, vs, w, ax, ad₁, σ₁, rfl, es, R₁, x₁, g, r, e1, e2, hlen, hall, o⟩ := h₁
  refine hG ?_
  refine wpAny_pyIter_list ⟨_, g, rfl, w, rfl⟩ ?_
  have sz : sizeLine = 16777216 := by decide
  have axl : ax < s₁.heap.objs.size := Heap.lt_size g
  have up : ∀ b o, s₁.heap.get? b = some o → (s₁.heap.push { cls := .type "list_iterator", data := .fields #[.ref ax, .int 0 0] }).get? b = some o := fun b o e => Heap.get?_push_of_some _ e
  have nI : s₁.heap.get? s₁.heap.objs.size = none := push_new _
  have hlen' := r.length
  have hmem : ∀ (i : Nat) (v : Value), vs.toArray[i]? = some v → ∃ a, a ∈ xs ∧ VIn ad₁ s₁.heap v a := fun i v e => by
   have e' : vs[i]? = some v := by simpa using e
   have li := (List.getElem?_eq_some_iff.mp e').1
   have ea : xs[i]? = some xs[i] := List.getElem?_eq_getElem (by tb_rel)
   refine Classical.byContradiction fun hG => ?_
   obtain ⟨z, hz, iz⟩ := r.get ea
   refine hG ?_
   rw [e'] at hz; cases hz
   exact ⟨_, List.mem_of_getElem? ea, iz⟩
  refine comp_block_walkC (RR := fun acc C' => compPost (model C.prog C.w) A E none Q acc C') (Walks.list (ro.quiet hq) s₁.heap.objs.size ax (Nat.ne_of_lt axl) vs.toArray) (by rw [List.size_toArray, sz]; tb_rel) (pIs s₁.heap k t) (fun a b => b = a) hcell hkind hx
   ⟨⟨_, Heap.get?_push_size _ rfl, rfl, rfl⟩, ⟨_, up _ _ g, rfl, w, rfl⟩⟩ (fun b hb => ?_) ⟨fun D i v s₃ m₃ E' hD hP hn hm₃ kp _ => ?_, fun D i v s₃ m₃ E' hD hP hp hn hm₃ kp _ => ?_⟩ fun D D' h' tk m' ys vs' hD hC hDC hn hl' hpl hlen2 hP hF kp => ?_
  · show b < (s₁.heap.push _).objs.size
    rw [Heap.size_push]
    rcases List.mem_cons.mp hb with rfl | hb
    · exact Nat.lt_succ_self _
    · rw [List.mem_singleton.mp hb]; exact Nat.lt_succ_of_lt axl
  · have kp' : ∀ b o, s₁.heap.get? b = some o → s₃.heap.get? b = some o := fun b o e => kp b o (by rw [List.mem_singleton]; exact Nat.ne_of_lt (Heap.lt_size e)) (up b o e)
    refine Classical.byContradiction fun hG => ?_
    obtain ⟨a, ha, ia⟩ := hmem i v hP
    refine hG ?_
    refine Classical.byContradiction fun hG => ?_
    obtain ⟨b, us, m0, st, u, rfl, gb, hk0, hpi, hti⟩ := pIs_ok (t := t) ia (List.all_eq_true.mp hall a ha)
    refine hG ?_
    have hj := R₁.st.pin _ hp
    refine Classical.byContradiction fun hG => ?_
    obtain ⟨_, oc, wc, gc, dc, rc⟩ := R₁.st.at hj e2
    refine hG ?_
    refine Classical.byContradiction fun hG => ?_
    obtain ⟨uc, rfl, iuc⟩ := rc
    refine hG ?_
    obtain ⟨tc, rfl⟩ := iuc.str_inv
    have hkind' : (compEnvC scope cl' D (envX qn sc L f cd cl)).scope.kind = .function := hkind
    refine wpAny_tests_one (wpAny_isTrue_Compare1 (Subscript_ (wpAny_Name (wpAny_loadName_local hkind' (lookup_relabel_local hx) hn hm₃ ?_) hdx)) hm)
    refine wpAny_Constant_int ?_
    have klt := (List.getElem?_eq_some_iff.mp hk0).1
    refine item_tupleT (s := { s₃ with toks := s₃.toks + 1 }) ⟨_, kp' _ _ gb, rfl, _, rfl⟩ (by tb_rel) (by tb_rel) (seqIdx (i := (k : Int)) (by tb_rel) (by simpa using klt)) (by simpa using hk0) ?_ rfl
    refine wpAny_Name (wpAny_loadName_cell hkind' (hy L cl qn f cd D) hl ⟨oc, kp' _ _ gc, dc⟩ ?_) hdy
    refine eq_str (wpAny_truthy_bool ⟨?_, _, _, rfl, fun b o e => e⟩)
    rw [hpi, Bool.eq_iff_iff, beq_iff_eq, decide_eq_true_eq]
    exact ⟨fun q => by injection q with q; simpa using q, fun q => by rw [q]⟩
  · have hkind' : (compEnvC scope cl' D (envX qn sc L f cd cl)).scope.kind = .function := hkind
    exact wpAny_Name (wpAny_loadName_local hkind' (lookup_relabel_local hx) hn hm₃ ⟨rfl, _, _, rfl, fun b o e => e⟩) hdx
  · refine ⟨m', hn, fun h'' hs'' => ?_⟩
    have k'' : ∀ b o, s₁.heap.get? b = some o → h''.get? b = some o := fun b o e => hs''.extBut b o (fun q => by
     have z := up b o e
     rw [q] at z
     rw [show (s₁.heap.push { cls := .type "list_iterator", data := .fields #[.ref ax, .int 0 0] }).get? D' = none from hC] at z
     cases z) (kp b o (by rw [List.mem_singleton]; exact Nat.ne_of_lt (Heap.lt_size e)) (up b o e))
    have nD : s₁.heap.get? D = none := by
     cases q : s₁.heap.get? D with
     | none => rfl
     | some o => have z := up _ _ q; rw [show (s₁.heap.push { cls := .type "list_iterator", data := .fields #[.ref ax, .int 0 0] }).get? D = none from hD] at z; cases z
    obtain ⟨n0, gD⟩ := hpl
    have gD'' : h''.get? D = some { cls := .type "list", data := .seq ys n0 } := (hs''.2 D hDC).trans gD
    have evs : vs' = vs := by
     apply List.ext_getElem?
     intro i
     by_cases hi : i < vs'.length
     · have e : vs'[i]? = some vs'[i] := List.getElem?_eq_getElem hi
       have z : vs.toArray[i]? = some vs'[i] := hP i _ e
       rw [e]
       symm
       simpa using z
     · rw [List.getElem?_eq_none (by tb_rel), List.getElem?_eq_none (by rw [List.size_toArray] at hlen2; tb_rel)]
    have ey := paired_eq hF
    rw [evs] at ey
    have rf : VAll ad₁ h'' ys.toList (xs.filter (tupIs k t)) := by
     rw [ey]
     refine VAll.mono (fun _ _ e => e) (fun _ _ _ e => k'' _ _ e) (r.filter fun v a ia ma => ?_)
     refine Classical.byContradiction fun hG => ?_
     obtain ⟨_, _, _, _, _, _, _, _, h1, h2⟩ := pIs_ok (t := t) ia (List.all_eq_true.mp hall a ma)
     refine hG ?_
     rw [h1, h2]
    have R2 := R₁.add k'' nD nD (ao := .list (xs.filter (tupIs k t))) ⟨rfl, ys.toList, n0, gD'', rf.mono idx_more fun _ _ _ e => e⟩
    exact OutX.here o R2 (Ext.add k'' nD nD) (loc_new R₁ (D, D))
 refine he A qn L f cd cl s ad fr σ _ E ro R (OutX.bind o fun a σ₁ v h₁ t₁ ad₁ R₁ x₁ i₁ o => ?_)
 split at o
 · rename_i m
   split at o
   · rename_i xs t e1 e2
     split at o
     · rename_i hc
       refine Classical.byContradiction fun hG => ?_
       obtain ⟨p, hp, rfl⟩ := i₁.loc_inv
       refine hG ?_
       refine Classical.byContradiction fun hG => ?_
       obtain ⟨vs, w, g, r⟩ := R₁.st.list hp e1
       refine hG ?_
       exact ⟨m, xs, t, vs, w, p.1, ad₁, σ₁, rfl, rfl, R₁, x₁, g, r, e1, e2, hc.1, hc.2, o⟩
     · exact o.elim
   · exact o.elim
 · exact o.elim
end
end Mine
end
section
open PySem PySem.W PySem.Calls PyProof.Rows
namespace Mine
section
variable {C : Ctx} {n : Nat} {sc : Scope} {nm gn : List Str}
theorem RF.of_extS {L : Addr} {h h' : Heap} {ad ad' : Adr} {fr : Frame} {σ σ' : Store} (R : RF C nm L h ad fr σ) (x : ExtS L ad h ad' h') (S : SIn C ad' σ' h') : RF C nm L h' ad' fr σ' := by
 obtain ⟨m, F, hm⟩ := R.fr
 obtain ⟨oL, es, ep, hL, _⟩ := id F.ns
 refine ⟨S, ⟨m, ⟨ns_slots F.ns x.slots, S.keep, F.above⟩, fun i av e => ?_⟩, ?_⟩
 · obtain ⟨y, v, h1, h2, h3⟩ := hm i av e
   exact ⟨y, v, h1, h2, x.ext.val h3⟩
 · obtain ⟨l, rfl, hl⟩ := x.ext.more
   exact not_touch_new hl hL R.off
theorem SndE.callFnX (S : FnS sc nm gn) {x : Str} {f : Value} {np pos : Pos} {es : List Expr} {d : DL} {spec : Spec} {m : Nat} (hlim : ∀ A L cl, C.lim A L cl → ∃ env, A.frames = some [env] ∧ env.frame = some L ∧ env.scope.kind ≠ .module)
 (j : Nat) (hx : gn[j]? = some x) (hv : C.mg x = some f) (hk : KeepOk C f) (hf : FnSndX C m f spec) (hm : m ≤ n) (hl : SndL C n sc nm es d) : SndE C n sc nm (.Call (.Name x np) es [] pos) (dFn spec d) := by
 intro A qn L fa cd cl s ad fr σ Q E ro R o
 obtain ⟨mm, F, _⟩ := id R.fr
 have mem : x ∈ gn := List.mem_of_getElem? hx
 refine wpAny_Call_NameR (Name_function_global S.kind (S.glob x mem) (loadGlobal_global (env := envX qn sc L fa cd cl) (C.T.g.keeps F.keep) hv ?_) (S.debug x (List.mem_append_right _ mem)))
 refine callWith_snd hk hl ro R o fun as σ' vs h₁ t₁ ad₁ R₁ x₁ i₁ o => wpAny_call ?_
 obtain ⟨env, e1, e2, e3⟩ := hlim A L cl ro.lim
 obtain ⟨m1, F1, _⟩ := id R₁.fr
 refine hf A { s with heap := h₁, toks := t₁ } ad₁ σ' vs as _ env L (ro.toRoom.le hm) e1 e2 e3 (none_of_size F1.above) R₁.off (.of_fr F1) R₁.st R₁.size i₁ ?_
 generalize spec as σ' = r at o
 cases r with
 | ok a σ2 => exact fun v h t ad' S' x' iv => o v h t ad' (R₁.of_extS x' S') x'.ext iv
 | exc a σ2 => exact o
 | stuck => exact o
end
noncomputable def limLaw (c1 c2 : Addr) : Around → Addr → List (Str × Addr) → Prop := fun A L cl => (∃ env, A.frames = some [env] ∧ env.frame = some L ∧ env.scope.kind ≠ .module) ∧ cl = [(("right" : Str), c2), (("left" : Str), c1)]
noncomputable abbrev LawC (C : Ctx) (c1 c2 : Addr) : Ctx := C.with_ (limLaw c1 c2) [(0, c1), (1, c2)]
theorem lim_env {C : Ctx} {c1 c2 : Addr} : ∀ A L cl, (LawC C c1 c2).lim A L cl → ∃ env, A.frames = some [env] ∧ env.frame = some L ∧ env.scope.kind ≠ .module := fun _ _ _ h => h.1
theorem lk_right {c1 c2 : Addr} : ([(("right" : Str), c2), (("left" : Str), c1)] : List (Str × Addr)).lookup ("right" : Str) = some c2 := by
 rw [List.lookup_cons, beq_self_eq_true]
theorem lk_left {c1 c2 : Addr} : ([(("right" : Str), c2), (("left" : Str), c1)] : List (Str × Addr)).lookup ("left" : Str) = some c1 := by
 rw [List.lookup_cons, show (("left" : Str) == "right") = false by decide +kernel]
 show List.lookup _ [_] = _
 rw [List.lookup_cons, beq_self_eq_true]
theorem lim_left {C : Ctx} {c1 c2 : Addr} : ∀ A L cl, (LawC C c1 c2).lim A L cl → cl.lookup ("left" : Str) = some c1 := fun _ _ _ h => by rw [h.2]; exact lk_left
theorem lim_right {C : Ctx} {c1 c2 : Addr} : ∀ A L cl, (LawC C c1 c2).lim A L cl → cl.lookup ("right" : Str) = some c2 := fun _ _ _ h => by rw [h.2]; exact lk_right
end Mine
end
section
open PySem PySem.W PySem.Calls PyProof.Rows
namespace Mine
noncomputable def d_lawR : DS := (SQ (QA 2 (dFn sp_cSymbols LN)) (SQ (QA 3 (dFn sp_law_text (LC (DV 1) (LC (DC (.int 7)) LN)))) (SQ (QA 4 (dFn sp_law_text (LC (DV 1) (LC (DC (.int 4)) LN)))) (SQ (QA 5 (dList (LC (dFn sp_law_any (LC (DV 1) LN)) (LC (dFn sp_law_any (LC (DV 1) LN)) (LC (dFn sp_law_any (LC (DV 1) LN)) LN))))) (SQ (QA 6 (dFn sp_law_pinch (LC (DV 1) (LC (dBin .Add (dCall spLen (LC (DV 3) LN)) (DC (.int 1))) LN)))) (SQ (QA 7 (dSlice (DV 3) (DV 6) (dBin .Add (DV 6) (dFn sp_law_pinch (LC (DV 1) (LC (DC (.int 3)) LN)))) (DC .none))) (SQ (sIf (bVal (dCmp .NotEq (dFn sp_spans (LC (dCall spLen (LC (DV 3) LN)) (LC (dItem (DV 5) (DC (.int 0))) (LC (dItem (DV 5) (DC (.int 1))) (LC (dItem (DV 5) (DC (.int 2))) LN))))) (dFn sp_law_parts (LC (dCall spLen (LC (DV 3) LN)) (LC (dItem (DV 5) (DC (.int 0))) (LC (dItem (DV 5) (DC (.int 1))) (LC (dItem (DV 5) (DC (.int 2))) LN))))))) (SQ (sRet (DC (.bool false))) SN) SN) (SQ (QA 8 (dList (LC (DC (.int (-1))) (LC (DC (.int (-1))) (LC (DC (.int (-1))) LN))))) (SQ (sFor (dList (LC (DC .none) (LC (DV 7) (LC (DV 4) LN)))) (gName 9) (SQ (sIf (bOr (bNot (bVal (dFn sp_law_rows_right (LC (DV 2) (LC (DV 3) (LC (DV 5) (LC (DV 9) (LC (DC (.int 100000)) LN)))))))) (bOr (bNot (bVal (dFn sp_law_rows_right (LC (DV 2) (LC (DV 3) (LC (DV 8) (LC (DV 9) (LC (DC (.int 100000)) LN)))))))) (fun _ σ => Res.ok false σ))) (SQ (sRet (DC (.bool false))) SN) SN) SN)) (SQ (QA 10 (dBin .Mult (dBin .FloorDiv (dBin .Mult (dBin .Add (dCall spLen (LC (DV 3) LN)) (DC (.int 1))) (dBin .Add (dCall spLen (LC (DV 3) LN)) (DC (.int 2)))) (DC (.int 2))) (DC (.int (7))))) (SQ (sIf (bOr (bNot (bVal (dFn sp_law_rows_right (LC (DV 2) (LC (DV 3) (LC (DV 8) (LC (DC .none) (LC (DV 10) LN)))))))) (bOr (bNot (bVal (dFn rowsX (LC (DV 2) (LC (DV 3) (LC (DV 8) (LC (DC .none) (LC (dBin .Sub (DV 10) (DC (.int 1))) LN)))))))) (fun _ σ => Res.ok false σ))) (SQ (sRet (DC (.bool false))) SN) SN) (SQ (QA 11 (dList LN)) (SQ (sForR (LC (dBin .Add (dCall spLen (LC (DV 3) LN)) (DC (.int 1))) LN) (gName 12) (SQ (sExpr (dMethB .list spAppend (DV 11) (LC (dTup (LC (dSlice (DV 3) (DC .none) (DV 12) (DC .none)) (LC (dSlice (DV 3) (DV 12) (DC .none) (DC .none)) LN))) LN))) SN)) (SQ (sIf (bVal (dCmp .NotEq (dFn sp_splits (LC (DV 3) (LC (DC .none) (LC (DC .none) LN)))) (DV 11))) (SQ (sRet (DC (.bool false))) SN) SN) (SQ (sForT (dBin .Add (DV 11) (dList (LC (dTup (LC (DV 4) (LC (DV 7) LN))) (LC (dTup (LC (DV 7) (LC (DV 4) LN))) LN)))) (gTup2 (gCell 0) (gCell 1)) (SQ (sIf (bVal (dCmp .NotEq (dFn sp_splits (LC (DV 3) (LC (dCell 0) (LC (DC .none) LN)))) (dComp 0 0 (DV 11)))) (SQ (sRet (DC (.bool false))) SN) SN) (SQ (sIf (bVal (dCmp .NotEq (dFn sp_splits (LC (DV 3) (LC (DC .none) (LC (dCell 1) LN)))) (dComp 1 1 (DV 11)))) (SQ (sRet (DC (.bool false))) SN) SN) (SQ (sIf (bVal (dCmp .NotEq (dFn sp_splits (LC (DV 3) (LC (dCell 0) (LC (dCell 1) LN)))) (dIf (bVal (dCmp .Eq (dBin .Add (dCell 0) (dCell 1)) (DV 3))) (dList (LC (dTup (LC (dCell 0) (LC (dCell 1) LN))) LN)) (dList LN)))) (SQ (sRet (DC (.bool false))) SN) SN) SN)))) (SQ (sRet (dAnd (dFn sp_law_cases_right (LC (DV 3) LN)) (dFn sp_law_cases_right (LC (DV 4) LN)))) SN))))))))))))))))
end Mine
end
section
open PySem PySem.W PySem.Calls PyProof.Rows
namespace Mine
theorem lk_one {c : Addr} {x : Str} : ([(x, c)] : List (Str × Addr)).lookup x = some c := by rw [List.lookup_cons, beq_self_eq_true]
section
variable {C : Ctx} {f : Nat → Addr} {c1 c2 : Addr}
theorem S_law : FnS (fnSc (stTop 51)) ((["script"] : List Str) ++ (["salt", "names", "text", "other", "wants", "start", "own", "every", "asked", "edge", "pairs", "spot"] : List Str)) (["Symbols", "_law_text", "_law_any", "_law_pinch", "len", "spans", "_law_parts", "ANY", "_law_rows_right", "ROW_CELLS", "range", "splits", "_law_cases_right"] : List Str) := ⟨rfl, by decide +kernel, by decide +kernel, by decide +kernel, by decide +kernel⟩
theorem bod_law (P : PC C f) (hC : C.pin = []) : SndS (LawC C c1 c2) 35 (fnSc (stTop 51)) ((["script"] : List Str) ++ (["salt", "names", "text", "other", "wants", "start", "own", "every", "asked", "edge", "pairs", "spot"] : List Str)) (fnB (stTop 51)).tail d_lawR := by
 have S := S_law
 unfold d_lawR
 refine .cons ?_ ?_
 refine .assign S 2 rfl (fun _ => rfl) ?_
 refine .callFn S 0 rfl (P.gc 0) (.of_K (P.kc 0)) ((snd_cSymbols P).with_ hC) (by decide) ?_
 exact .nil
 refine .cons ?_ ?_
 refine .assign S 3 rfl (fun _ => rfl) ?_
 refine .callFn S 1 rfl (P.gf 14) (.of_K (P.kf 37)) ((snd_law_text P).with_ hC) (by decide) ?_
 refine .cons (SR rfl) ?_ ?_
 exact .var S 1 rfl
 refine .cons (SR rfl) ?_ ?_
 exact .cint
 exact .nil
 refine .cons ?_ ?_
 refine .assign S 4 rfl (fun _ => rfl) ?_
 refine .callFn S 1 rfl (P.gf 14) (.of_K (P.kf 37)) ((snd_law_text P).with_ hC) (by decide) ?_
 refine .cons (SR rfl) ?_ ?_
 exact .var S 1 rfl
 refine .cons (SR rfl) ?_ ?_
 exact .cint
 exact .nil
 refine .cons ?_ ?_
 refine .assign S 5 rfl (fun _ => rfl) ?_
 refine .list ?_
 refine .cons (SR rfl) ?_ ?_
 refine .callFn S 2 rfl (P.gf 15) (.of_K (P.kf 38)) ((snd_law_any P).with_ hC) (by decide) ?_
 refine .cons (SR rfl) ?_ ?_
 exact .var S 1 rfl
 exact .nil
 refine .cons (SR rfl) ?_ ?_
 refine .callFn S 2 rfl (P.gf 15) (.of_K (P.kf 38)) ((snd_law_any P).with_ hC) (by decide) ?_
 refine .cons (SR rfl) ?_ ?_
 exact .var S 1 rfl
 exact .nil
 refine .cons (SR rfl) ?_ ?_
 refine .callFn S 2 rfl (P.gf 15) (.of_K (P.kf 38)) ((snd_law_any P).with_ hC) (by decide) ?_
 refine .cons (SR rfl) ?_ ?_
 exact .var S 1 rfl
 exact .nil
 exact .nil
 refine .cons ?_ ?_
 refine .assign S 6 rfl (fun _ => rfl) ?_
 refine .callFn S 3 rfl (P.gf 13) (.of_K (P.kf 36)) ((snd_law_pinch P).with_ hC) (by decide) ?_
 refine .cons (SR rfl) ?_ ?_
 exact .var S 1 rfl
 refine .cons (SR rfl) ?_ ?_
 refine .bin ?_ ?_
 refine .callBi (bi := "len") S 4 rfl (P.non 0) rfl (by decide) bi_len ?_
 refine .cons (SR rfl) ?_ ?_
 exact .var S 3 rfl
 exact .nil
 exact .cint
 exact .nil
 refine .cons ?_ ?_
 refine .assign S 7 rfl (fun _ => rfl) ?_
 refine .slice (fun _ _ => ⟨_, rfl⟩) (fun _ _ => rfl) ?_ ?_ ?_ ?_
 exact .var S 3 rfl
 refine .some ?_
 exact .var S 6 rfl
 refine .some ?_
 refine .bin ?_ ?_
 exact .var S 6 rfl
 refine .callFn S 3 rfl (P.gf 13) (.of_K (P.kf 36)) ((snd_law_pinch P).with_ hC) (by decide) ?_
 refine .cons (SR rfl) ?_ ?_
 exact .var S 1 rfl
 refine .cons (SR rfl) ?_ ?_
 exact .cint
 exact .nil
 exact .none
 refine .cons ?_ ?_
 refine .if_ ?_ ?_ ?_
 refine .cmp rfl ?_ ?_
 refine .callFn S 5 rfl (P.gf 10) (.of_K (P.kf 30)) ((snd_spans P).with_ hC) (by decide) ?_
 refine .cons (SR rfl) ?_ ?_
 refine .callBi (bi := "len") S 4 rfl (P.non 0) rfl (by decide) bi_len ?_
 refine .cons (SR rfl) ?_ ?_
 exact .var S 3 rfl
 exact .nil
 refine .cons (SR rfl) ?_ ?_
 refine .item (fun _ _ => rfl) ?_ ?_
 exact .var S 5 rfl
 exact .cint
 refine .cons (SR rfl) ?_ ?_
 refine .item (fun _ _ => rfl) ?_ ?_
 exact .var S 5 rfl
 exact .cint
 refine .cons (SR rfl) ?_ ?_
 refine .item (fun _ _ => rfl) ?_ ?_
 exact .var S 5 rfl
 exact .cint
 exact .nil
 refine .callFn S 6 rfl (P.gf 16) (.of_K (P.kf 39)) ((snd_law_parts P).with_ hC) (by decide) ?_
 refine .cons (SR rfl) ?_ ?_
 refine .callBi (bi := "len") S 4 rfl (P.non 0) rfl (by decide) bi_len ?_
 refine .cons (SR rfl) ?_ ?_
 exact .var S 3 rfl
 exact .nil
 refine .cons (SR rfl) ?_ ?_
 refine .item (fun _ _ => rfl) ?_ ?_
 exact .var S 5 rfl
 exact .cint
 refine .cons (SR rfl) ?_ ?_
 refine .item (fun _ _ => rfl) ?_ ?_
 exact .var S 5 rfl
 exact .cint
 refine .cons (SR rfl) ?_ ?_
 refine .item (fun _ _ => rfl) ?_ ?_
 exact .var S 5 rfl
 exact .cint
 exact .nil
 refine .cons ?_ ?_
 refine .ret ?_
 exact .cbool
 exact .nil
 exact .nil
 refine .cons ?_ ?_
 refine .assign S 8 rfl (fun _ => rfl) ?_
 refine .list ?_
 refine .cons (SR rfl) ?_ ?_
 exact .globI S 7 rfl (P.con 13)
 refine .cons (SR rfl) ?_ ?_
 exact .globI S 7 rfl (P.con 13)
 refine .cons (SR rfl) ?_ ?_
 exact .globI S 7 rfl (P.con 13)
 exact .nil
 refine .cons ?_ ?_
 refine .for_ (by decide) TgtName.name (fun _ _ => rfl) (gName_chk 9) ?_ ?_ ?_
 refine .list ?_
 refine .cons (SR rfl) ?_ ?_
 exact .cnone
 refine .cons (SR rfl) ?_ ?_
 exact .var S 7 rfl
 refine .cons (SR rfl) ?_ ?_
 exact .var S 4 rfl
 exact .nil
 exact .name S 9 rfl
 refine .cons ?_ ?_
 refine .if_ ?_ ?_ ?_
 refine .bool ?_
 refine .or_cons ?_ ?_
 refine .not ?_
 refine .val ?_ (fun _ _ => rfl)
 refine .callFn S 8 rfl (P.gf 18) (.of_K (P.kf 41)) ((snd_law_rows_right P).with_ hC) (by decide) ?_
 refine .cons (SR rfl) ?_ ?_
 exact .var S 2 rfl
 refine .cons (SR rfl) ?_ ?_
 exact .var S 3 rfl
 refine .cons (SR rfl) ?_ ?_
 exact .var S 5 rfl
 refine .cons (SR rfl) ?_ ?_
 exact .var S 9 rfl
 refine .cons (SR rfl) ?_ ?_
 exact .cint
 exact .nil
 refine .or_cons ?_ ?_
 refine .not ?_
 refine .val ?_ (fun _ _ => rfl)
 refine .callFn S 8 rfl (P.gf 18) (.of_K (P.kf 41)) ((snd_law_rows_right P).with_ hC) (by decide) ?_
 refine .cons (SR rfl) ?_ ?_
 exact .var S 2 rfl
 refine .cons (SR rfl) ?_ ?_
 exact .var S 3 rfl
 refine .cons (SR rfl) ?_ ?_
 exact .var S 8 rfl
 refine .cons (SR rfl) ?_ ?_
 exact .var S 9 rfl
 refine .cons (SR rfl) ?_ ?_
 exact .cint
 exact .nil
 exact .or_nil
 refine .cons ?_ ?_
 refine .ret ?_
 exact .cbool
 exact .nil
 exact .nil
 exact .nil
 refine .cons ?_ ?_
 refine .assign S 10 rfl (fun _ => rfl) ?_
 refine .bin ?_ ?_
 refine .bin ?_ ?_
 refine .bin ?_ ?_
 refine .bin ?_ ?_
 refine .callBi (bi := "len") S 4 rfl (P.non 0) rfl (by decide) bi_len ?_
 refine .cons (SR rfl) ?_ ?_
 exact .var S 3 rfl
 exact .nil
 exact .cint
 refine .bin ?_ ?_
 refine .callBi (bi := "len") S 4 rfl (P.non 0) rfl (by decide) bi_len ?_
 refine .cons (SR rfl) ?_ ?_
 exact .var S 3 rfl
 exact .nil
 exact .cint
 exact .cint
 exact .globI S 9 rfl (P.con 14)
 refine .cons ?_ ?_
 refine .if_ ?_ ?_ ?_
 refine .bool ?_
 refine .or_cons ?_ ?_
 refine .not ?_
 refine .val ?_ (fun _ _ => rfl)
 refine .callFn S 8 rfl (P.gf 18) (.of_K (P.kf 41)) ((snd_law_rows_right P).with_ hC) (by decide) ?_
 refine .cons (SR rfl) ?_ ?_
 exact .var S 2 rfl
 refine .cons (SR rfl) ?_ ?_
 exact .var S 3 rfl
 refine .cons (SR rfl) ?_ ?_
 exact .var S 8 rfl
 refine .cons (SR rfl) ?_ ?_
 exact .cnone
 refine .cons (SR rfl) ?_ ?_
 exact .var S 10 rfl
 exact .nil
 refine .or_cons ?_ ?_
 refine .not ?_
 refine .val ?_ (fun _ _ => rfl)
 refine .callFnX S lim_env 8 rfl (P.gf 18) (.of_K (P.kf 41)) ((rows_exc P).with_ hC) (by decide) ?_
 refine .cons (SR rfl) ?_ ?_
 exact .var S 2 rfl
 refine .cons (SR rfl) ?_ ?_
 exact .var S 3 rfl
 refine .cons (SR rfl) ?_ ?_
 exact .var S 8 rfl
 refine .cons (SR rfl) ?_ ?_
 exact .cnone
 refine .cons (SR rfl) ?_ ?_
 refine .bin ?_ ?_
 exact .var S 10 rfl
 exact .cint
 exact .nil
 exact .or_nil
 refine .cons ?_ ?_
 refine .ret ?_
 exact .cbool
 exact .nil
 exact .nil
 refine .cons ?_ ?_
 refine .assign S 11 rfl (fun _ => rfl) ?_
 refine .list ?_
 exact .nil
 refine .cons ?_ ?_
 refine .forR (by decide) S 10 rfl (P.non 9) TgtName.name (gName_chk 12) ?_ ?_ ?_
 refine .cons (SR rfl) ?_ ?_
 refine .bin ?_ ?_
 refine .callBi (bi := "len") S 4 rfl (P.non 0) rfl (by decide) bi_len ?_
 refine .cons (SR rfl) ?_ ?_
 exact .var S 3 rfl
 exact .nil
 exact .cint
 exact .nil
 exact .name S 12 rfl
 refine .cons ?_ ?_
 refine .expr S (fun _ => rfl) ?_
 refine .methB .list (fun _ _ => rfl) (by decide) rfl PySem.F.plainAttrs_list PySem.F.slot_list_append PySem.F.type_list_append bi_append ?_ ?_
 exact .var S 11 rfl
 refine .cons (SR rfl) ?_ ?_
 refine .tup ?_
 refine .cons (SR rfl) ?_ ?_
 refine .slice (fun _ _ => ⟨_, rfl⟩) (fun _ _ => rfl) ?_ ?_ ?_ ?_
 exact .var S 3 rfl
 exact .none
 refine .some ?_
 exact .var S 12 rfl
 exact .none
 refine .cons (SR rfl) ?_ ?_
 refine .slice (fun _ _ => ⟨_, rfl⟩) (fun _ _ => rfl) ?_ ?_ ?_ ?_
 exact .var S 3 rfl
 refine .some ?_
 exact .var S 12 rfl
 exact .none
 exact .none
 exact .nil
 exact .nil
 exact .nil
 refine .cons ?_ ?_
 refine .if_ ?_ ?_ ?_
 refine .cmp rfl ?_ ?_
 refine .callFn S 11 rfl (P.gf 12) (.of_K (P.kf 32)) ((snd_splits P).with_ hC) (by decide) ?_
 refine .cons (SR rfl) ?_ ?_
 exact .var S 3 rfl
 refine .cons (SR rfl) ?_ ?_
 exact .cnone
 refine .cons (SR rfl) ?_ ?_
 exact .cnone
 exact .nil
 exact .var S 11 rfl
 refine .cons ?_ ?_
 refine .ret ?_
 exact .cbool
 exact .nil
 exact .nil
 refine .cons ?_ ?_
 refine .forT (by decide) TgtList.tup (fun _ _ => rfl) ((gCell_chk 0).tup2 (gCell_chk 1)) ?_ ?_ ?_
 refine .bin ?_ ?_
 exact .var S 11 rfl
 refine .list ?_
 refine .cons (SR rfl) ?_ ?_
 refine .tup ?_
 refine .cons (SR rfl) ?_ ?_
 exact .var S 4 rfl
 refine .cons (SR rfl) ?_ ?_
 exact .var S 7 rfl
 exact .nil
 refine .cons (SR rfl) ?_ ?_
 refine .tup ?_
 refine .cons (SR rfl) ?_ ?_
 exact .var S 7 rfl
 refine .cons (SR rfl) ?_ ?_
 exact .var S 4 rfl
 exact .nil
 exact .nil
 refine .tup2 (by decide) (fun _ => rfl) ?_ ?_
 exact .cell S.kind (by decide +kernel) lim_left (by simp)
 exact .cell S.kind (by decide +kernel) lim_right (by simp)
 refine .cons ?_ ?_
 refine .if_ ?_ ?_ ?_
 refine .cmp rfl ?_ ?_
 refine .callFn S 11 rfl (P.gf 12) (.of_K (P.kf 32)) ((snd_splits P).with_ hC) (by decide) ?_
 refine .cons (SR rfl) ?_ ?_
 exact .var S 3 rfl
 refine .cons (SR rfl) ?_ ?_
 exact .cell S.kind (by decide +kernel) lim_left (by simp) (by decide +kernel)
 refine .cons (SR rfl) ?_ ?_
 exact .cnone
 exact .nil
 refine .comp (k := 0) (cl' := [(("left" : Str), c1)]) (c := c1) (j := 0) (by decide) S.kind (fun A L cl h qn f cd => by rw [h.2]; kernel_rfl) lk_one (by simp) (by decide +kernel) rfl (by decide +kernel) (by decide +kernel) (fun _ _ _ _ _ _ => by kernel_rfl) (by decide +kernel) (by decide +kernel) (fun _ _ => rfl) (by decide) rfl ?_
 exact .var S 11 rfl
 refine .cons ?_ ?_
 refine .ret ?_
 exact .cbool
 exact .nil
 exact .nil
 refine .cons ?_ ?_
 refine .if_ ?_ ?_ ?_
 refine .cmp rfl ?_ ?_
 refine .callFn S 11 rfl (P.gf 12) (.of_K (P.kf 32)) ((snd_splits P).with_ hC) (by decide) ?_
 refine .cons (SR rfl) ?_ ?_
 exact .var S 3 rfl
 refine .cons (SR rfl) ?_ ?_
 exact .cnone
 refine .cons (SR rfl) ?_ ?_
 exact .cell S.kind (by decide +kernel) lim_right (by simp) (by decide +kernel)
 exact .nil
 refine .comp (k := 1) (cl' := [(("right" : Str), c2)]) (c := c2) (j := 1) (by decide) S.kind (fun A L cl h qn f cd => by rw [h.2]; kernel_rfl) lk_one (by simp) (by decide +kernel) rfl (by decide +kernel) (by decide +kernel) (fun _ _ _ _ _ _ => by kernel_rfl) (by decide +kernel) (by decide +kernel) (fun _ _ => rfl) (by decide) rfl ?_
 exact .var S 11 rfl
 refine .cons ?_ ?_
 refine .ret ?_
 exact .cbool
 exact .nil
 exact .nil
 refine .cons ?_ ?_
 refine .if_ ?_ ?_ ?_
 refine .cmp rfl ?_ ?_
 refine .callFn S 11 rfl (P.gf 12) (.of_K (P.kf 32)) ((snd_splits P).with_ hC) (by decide) ?_
 refine .cons (SR rfl) ?_ ?_
 exact .var S 3 rfl
 refine .cons (SR rfl) ?_ ?_
 exact .cell S.kind (by decide +kernel) lim_left (by simp) (by decide +kernel)
 refine .cons (SR rfl) ?_ ?_
 exact .cell S.kind (by decide +kernel) lim_right (by simp) (by decide +kernel)
 exact .nil
 refine .ifexp ?_ ?_ ?_
 refine .cmp rfl ?_ ?_
 refine .bin ?_ ?_
 exact .cell S.kind (by decide +kernel) lim_left (by simp) (by decide +kernel)
 exact .cell S.kind (by decide +kernel) lim_right (by simp) (by decide +kernel)
 exact .var S 3 rfl
 refine .list ?_
 refine .cons (SR rfl) ?_ ?_
 refine .tup ?_
 refine .cons (SR rfl) ?_ ?_
 exact .cell S.kind (by decide +kernel) lim_left (by simp) (by decide +kernel)
 refine .cons (SR rfl) ?_ ?_
 exact .cell S.kind (by decide +kernel) lim_right (by simp) (by decide +kernel)
 exact .nil
 exact .nil
 refine .list ?_
 exact .nil
 refine .cons ?_ ?_
 refine .ret ?_
 exact .cbool
 exact .nil
 exact .nil
 exact .nil
 refine .cons ?_ ?_
 refine .ret ?_
 refine .and2 ?_ ?_
 refine .callFn S 12 rfl (P.gf 19) (.of_K (P.kf 42)) ((snd_law_cases_right P).with_ hC) (by decide) ?_
 refine .cons (SR rfl) ?_ ?_
 exact .var S 3 rfl
 exact .nil
 refine .callFn S 12 rfl (P.gf 19) (.of_K (P.kf 42)) ((snd_law_cases_right P).with_ hC) (by decide) ?_
 refine .cons (SR rfl) ?_ ?_
 exact .var S 4 rfl
 exact .nil
 exact .nil
end
end Mine
end
section
open PySem PySem.W PySem.Calls PyProof.Rows
namespace Mine
section
variable {C : Ctx} {f : Nat → Addr}
theorem law_cells (n : Nat) : cellsFrom n (fnSc (stTop 51)).names [] = [(("right" : Str), n + 1), (("left" : Str), n)] := by kernel_rfl
theorem slice_raw {n : Nat} {sc : Scope} {nm gn : List Str} {A : Around} {qn : Str} {L f a : Addr} {cd : Value} {cl : List (Str × Addr)} {s : Shared} {ad : Adr} {fr : Frame} {σ : Store} {Q E : Value → Shared → Prop} {m : Str → Option Value} {vs : List Value} {ys : List AV} {k : Nat}
 {x : Str} {p1 p2 pos : Pos} {th : Expr}
 (S : FnS sc nm gn) (hx : x ∈ nm) (hl : vs.length ≤ 1000) (F : Fr C.h₀ L s.heap m) (hm : m x = some (.ref a)) (hg : C.h₀.get? a = some { cls := .type "list", data := .seq vs.toArray })
 (ro : RoomL C n A L cl) (R : RF C nm L s.heap ad fr σ) (hth : SndE C n sc nm th (DC (.int k)))
 (hs : ∀ o i, ∃ ops, subscripted (.Slice Option.none (some th) Option.none p2) false o i = operate ops (getItem o i)) (ht : ∀ o r, letTemporaryGo (.Name x p1) o r = pure ())
 (i : VAll ad s.heap (vs.take k) ys) (o : OutE C nm L s ad fr Q E (.ok (.loc σ.length) (σ ++ [.list ys]))) :
 wpAny (model C.prog C.w) A (eval (.Subscript (.Name x p1) (.Slice Option.none (some th) Option.none p2) pos) (envX qn sc L f cd cl)) Q E s := by
 have sz : sizeLine = 16777216 := by decide
 refine Subscript_ (nameX_L F hm ?_ S.kind (S.loc x hx) (S.debug x (List.mem_append_left _ hx)))
 refine wpAny_Slice (SndP.none A qn L f cd cl s ad fr σ _ E ro R ?_)
 intro v h t ad' R1 x1 i1
 obtain rfl := i1.none_inv
 refine SndP.some hth A qn L f cd cl _ ad' fr σ _ E ro R1 ?_
 intro v2 h2 t2 ad2 R2 x2 i2
 obtain ⟨tk, rfl⟩ := i2.int_inv
 refine SndP.none A qn L f cd cl _ ad2 fr σ _ E ro R2 ?_
 intro v3 h3 t3 ad3 R3 x3 i3
 obtain rfl := i3.none_inv
 have x13 := x1.trans (x2.trans x3)
 dsimp only
 generalize h3 = h3 at *
 have kp := push_keeps h3 { cls := .type "slice", data := .fields #[.none, .int k tk, .none] }
 obtain ⟨ops, hs⟩ := hs (.ref a) (.ref h3.objs.size)
 have g : (h3.push { cls := .type "slice", data := .fields #[.none, .int k tk, .none] }).get? a = some { cls := .type "list", data := .seq vs.toArray } := kp _ _ (R3.st.keep _ _ hg)
 have hl2 : (h3.push { cls := .type "slice", data := .fields #[.none, .int k tk, .none] }).IsList a vs.toArray := ⟨_, g, rfl, 0, rfl⟩
 refine subscriptTail_ops (Heap.IsList.typeIs (s := ⟨h3.push { cls := .type "slice", data := .fields #[.none, .int k tk, .none] }, _, _, _, _⟩) hl2) list_getitem_lookup (wpAny_getItem_list_slice hl2 (Heap.IsSliceOf.new ..) .none (.int _ _) .none (by simp) ?_ (by
  rw [List.size_toArray]; tb_rel)) hs (ht _)
 have z := slicePick_upto' vs.toArray k
 rw [z]
 have z := (R3.keeps kp).pushNew { cls := .type "list", data := .seq ((vs.take k).toArray) } rfl (ao := .list ys) fun g => ⟨rfl, vs.take k, 0, g, ((x13.vals i).mono (fun _ _ e => e) fun _ _ _ e => kp _ _ e).mono idx_more fun _ _ _ e => push_keeps _ _ _ _ e⟩
 have zz := ((x13.trans (Ext.keeps kp)).trans z.2)
 exact o _ _ _ _ z.1 zz (loc_new (R3.keeps kp) _)
set_option tactic.hygienic true in
theorem law_sound (P : PC C f) (hC : C.pin = []) {fl : Addr} (ho : FnAt C fl (fnB (stTop 51)) (fnSc (stTop 51)) (["script"] : List Str) 1 []) {A : Around} {s : Shared} {a : Addr} {ns : List Int} {vs : List Value} {σ' : Store} {fr' : Frame} {v : AV} {R : Result → Shared → Prop}
 (ro : Room 36 A) (hfr : A.frames = some []) (Si : SIn C [] [] s.heap) (hz : C.h₀.objs.size ≤ s.heap.objs.size) (hl : vs.length ≤ 1000) (hg : C.h₀.get? a = some { cls := .type "list", data := .seq vs.toArray }) (hv : VAll [] s.heap vs (ns.map .int))
 (hd : d_lawR ([none, some (.loc 3)] ++ List.replicate 11 none) [.cell none, .cell none, .list ((ns.take 60).map .int), .list [.loc 2, .int 0]] = .ok (.ret v) fr' σ')
 (o : ∀ u h t ad', Ext [] [] s.heap ad' h → VIn ad' h u v → R (.ok (.ret u)) { s with heap := h, toks := t }) :
 codeAny (model C.prog C.w) A (.call (.ref fl) ⟨[.ref a], []⟩) R s := by
 obtain ⟨ob, ⟨name, qual, params, fb, fs, fg, fc, dV, kV, doc, pm, an, cdv, ct, fbi⟩, ⟨hK, hdt⟩, ⟨h1, h2, h3, h4, h5⟩, hcd, dvs, hdv, hb⟩ := ho
 dsimp only at h1 h2 h3 h4 h5 hcd
 subst h1 h2 h3 h4 h5
 have XK := Si.inK
 have SS := S_law
 cases hdv [] s.heap
 have hb' := hb s [.ref a] XK rfl
 have nL : C.T.nolimit = C.T.nolimit := rfl
 have hlim := C.T.nolimit.keeps Si.keep
 refine codeAny_call_function (fd := fnOf name qual params (fnB (stTop 51)) (fnSc (stTop 51)) dV kV doc pm an cdv ct) (by have := ro.depth; tb_rel) (XK _ _ hK) hdt rfl rfl rfl (codeRec_of XK hcd) (hb' _ _ _ _ ?_)
 refine wpAny_newFunctionEnv_cells SS.kind (fun x hx => .inl (SS.loc _ (List.mem_append_left _ (List.of_mem_zip hx).1))) fun env he s' x => ?_
 subst he
 refine ⟨hlim.keeps x.toInCall.keep, codeAny_func ?_⟩
 obtain ⟨⟨⟨h₁, tk, rfl⟩, hns, hkeep, _⟩, hcell, hap, hab⟩ := x
 dsimp only at hns hkeep hcell
 have ecl := law_cells (s.heap.objs.size + 1)
 have hks : (newEnv (fnSc (stTop 51)) s.heap.objs.size mainGlobals (cellsFrom (s.heap.objs.size + 1) (fnSc (stTop 51)).names []) (qual ++ Str.ofString ".<locals>.") (some fl) cdv none builtinsNs).kindOf ("script" : Str) = some .local := SS.loc _ (by decide)
 have hc1 : h₁.IsCell (s.heap.objs.size + 1) none := by
  have := hcell "left" (s.heap.objs.size + 1) (by show (cellsFrom (s.heap.objs.size + 1) (fnSc (stTop 51)).names []).lookup _ = _; rw [ecl]; exact lk_left)
  simpa [bindC, hks] using this
 have hc2 : h₁.IsCell (s.heap.objs.size + 1 + 1) none := by
  have := hcell "right" (s.heap.objs.size + 1 + 1) (by show (cellsFrom (s.heap.objs.size + 1) (fnSc (stTop 51)).names []).lookup _ = _; rw [ecl]; exact lk_right)
  simpa [bindC, hks] using this
 have hns' : h₁.Ns s.heap.objs.size (fun y => if y = ("script" : Str) then some (.ref a) else none) := by
  have e : bindL (newEnv (fnSc (stTop 51)) s.heap.objs.size mainGlobals (cellsFrom (s.heap.objs.size + 1) (fnSc (stTop 51)).names []) (qual ++ Str.ofString ".<locals>.") (some fl) cdv none builtinsNs).kindOf ((["script"] : List Str).zip ([.ref a] ++ [])) (fun _ => none) = fun y => if y = ("script" : Str) then some (.ref a) else none := by
   show bindL _ [(("script" : Str), Value.ref a)] _ = _
   simp [bindL, hks]
  rw [← e]; exact hns
 have n0 : s.heap.get? s.heap.objs.size = none := push_new _
 have n1 : s.heap.get? (s.heap.objs.size + 1) = none := none_of_size (Nat.le_succ _)
 have n2 : s.heap.get? (s.heap.objs.size + 1 + 1) = none := none_of_size (by tb_rel)
 have S1 := Si.keeps hkeep
 have t1 : ¬ Touch [] (s.heap.objs.size + 1) := Si.fresh n1
 have t2 : ¬ Touch [] (s.heap.objs.size + 1 + 1) := Si.fresh n2
 have S2 := S1.more (a := s.heap.objs.size + 1) (d := s.heap.objs.size + 1) (ao := .cell none) t1 t1 (Si.ground n1) (Si.ground n1) ⟨rfl, let ⟨o, g, d⟩ := hc1; ⟨o, none, g, d, rfl⟩⟩
 have t3 : ¬ Touch ([] ++ [(s.heap.objs.size + 1, s.heap.objs.size + 1)]) (s.heap.objs.size + 1 + 1) := by
  rintro ⟨p, hp, hb⟩
  rcases List.mem_append.mp hp with hp | hp
  · exact t2 ⟨p, hp, hb⟩
  · rw [List.mem_singleton.mp hp] at hb
    rcases hb with hb | hb <;> exact absurd hb (Nat.succ_ne_self _)
 have S3 := S2.more (a := s.heap.objs.size + 1 + 1) (d := s.heap.objs.size + 1 + 1) (ao := .cell none) t3 t3 (Si.ground n2) (Si.ground n2) ⟨rfl, let ⟨o, g, d⟩ := hc2; ⟨o, none, g, d, rfl⟩⟩
 have S4 : SIn (LawC C (s.heap.objs.size + 1) (s.heap.objs.size + 1 + 1)) _ _ h₁ := S3.to (lim := limLaw (s.heap.objs.size + 1) (s.heap.objs.size + 1 + 1)) (pin := [(0, s.heap.objs.size + 1), (1, s.heap.objs.size + 1 + 1)]) (by
  intro q hq
  rcases List.mem_cons.mp hq with rfl | hq
  · rfl
  · rw [List.mem_singleton.mp hq]; rfl)
 have R4 : RF (LawC C (s.heap.objs.size + 1) (s.heap.objs.size + 1 + 1)) ((["script"] : List Str) ++ (["salt", "names", "text", "other", "wants", "start", "own", "every", "asked", "edge", "pairs", "spot"] : List Str)) s.heap.objs.size h₁ ([] ++ [(s.heap.objs.size + 1, s.heap.objs.size + 1)] ++ [(s.heap.objs.size + 1 + 1, s.heap.objs.size + 1 + 1)]) (List.replicate 13 none) ([] ++ [.cell none] ++ [.cell none]) := by
  refine ⟨S4, ⟨_, ⟨hns', S4.keep, hz⟩, fun i av e => ?_⟩, ?_⟩
  · rw [List.getElem?_replicate] at e
    split at e <;> simp at e
  · rintro ⟨p, hp, hb⟩
    rcases List.mem_append.mp hp with hp | hp
    · rcases List.mem_append.mp hp with hp | hp
      · cases hp
      · rw [List.mem_singleton.mp hp] at hb
        rcases hb with hb | hb <;> exact absurd (show s.heap.objs.size = s.heap.objs.size + 1 from hb) (by tb_rel)
    · rw [List.mem_singleton.mp hp] at hb
      rcases hb with hb | hb <;> exact absurd (show s.heap.objs.size = s.heap.objs.size + 1 + 1 from hb) (by tb_rel)
 generalize hA : A.deeper _ = A1
 have ro1 : RoomL (LawC C (s.heap.objs.size + 1) (s.heap.objs.size + 1 + 1)) 35 A1 s.heap.objs.size [(("right" : Str), s.heap.objs.size + 1 + 1), (("left" : Str), s.heap.objs.size + 1)] := by
  subst hA
  refine ⟨⟨?_, ?_, fun q => ro.quiet (by tb_rel)⟩, ⟨envX qual (fnSc (stTop 51)) s.heap.objs.size fl cdv (cellsFrom (s.heap.objs.size + 1) (fnSc (stTop 51)).names []), ?_, rfl, ?_⟩, rfl⟩
  · have := ro.depth
    show A.depth + 1 + 35 < recursionLimit
    tb_rel
  · have := ro.units
    show A.units + 3 + 20 * 35 + 200 < cLine
    tb_rel
  · show A.frames.map _ = _
    rw [hfr]; rfl
  · show (fnSc (stTop 51)).kind ≠ _
    rw [SS.kind]; decide
 clear hA
 show wpAny (model C.prog C.w) A1 (execs (fnB (stTop 51)) (envX qual (fnSc (stTop 51)) s.heap.objs.size fl cdv (cellsFrom (s.heap.objs.size + 1) (fnSc (stTop 51)).names []))) _ _ _
 rw [ecl]
 obtain ⟨p1, p2, p3, p4, p5, p6, k1, k2, p7, p8, e0⟩ : ∃ p1 p2 p3 p4 p5 p6 k1 k2 p7 p8, fnB (stTop 51) = .Assign [.Name "salt" p1] (.List [.Subscript (.Name "script" p2) (.Slice none (some (.Constant (.int 60) k1 p3)) none p4) p5, .Constant (.int 0) k2 p7] p6) p8 :: (fnB (stTop 51)).tail := ⟨_, _, _, _, _, _, _, _, _, _, rfl⟩
 rw [e0]
 have F4 : Fr C.h₀ s.heap.objs.size h₁ (fun y => if y = ("script" : Str) then some (.ref a) else none) := ⟨hns', S4.keep, hz⟩
 refine wpAny_execs_cons (wpAny_Assign_Name (List_ (wpAny_items_cons (slice_raw (C := LawC C (s.heap.objs.size + 1) (s.heap.objs.size + 1 + 1)) (k := 60) (ys := (ns.take 60).map .int) SS (by simp) hl F4 (if_pos rfl) hg ro1 R4 SndE.cint (fun _ _ => ⟨_, rfl⟩) (fun _ _ => rfl) (by
  rw [List.map_take]
  exact ((hv.mono (fun _ _ e => by simp at e) fun _ _ _ e => hkeep _ _ e).take 60)) ?_) (SR rfl _))) (by rfl))
 intro v1 g1 t1 ad1 R5 x5 i5
 refine (SndL.cons (C := (LawC C (s.heap.objs.size + 1) (s.heap.objs.size + 1 + 1))) (SR rfl) SndE.cint SndL.nil).sem A1 qual s.heap.objs.size fl cdv _ _ _ ad1 _ _ _ _ ro1 R5 ?_
 intro v2 g2 t2 ad2 R6 x6 i6
 refine newList_rule (C := (LawC C (s.heap.objs.size + 1) (s.heap.objs.size + 1 + 1))) (as := [.loc 2, .int 0]) (by decide) R6 (.cons (x6.val i5) i6) ?_
 intro v3 g3 t3 ad3 R7 x7 i7
 refine storeName_rule (C := (LawC C (s.heap.objs.size + 1) (s.heap.objs.size + 1 + 1))) (i := 1) SS rfl R7 i7 fun g4 t4 R8 x8 => ?_
 have ef : ((List.replicate 13 none).set 1 (some (AV.loc (List.length (([] ++ [AO.cell none] ++ [AO.cell none]) ++ [AO.list ((ns.take 60).map .int)])))) : Frame) = [none, some (.loc 3)] ++ List.replicate 11 none := rfl
 have es : ((([] ++ [AO.cell none] ++ [AO.cell none]) ++ [AO.list ((ns.take 60).map .int)]) ++ [AO.list [.loc 2, .int 0]] : Store) = [.cell none, .cell none, .list ((ns.take 60).map .int), .list [.loc 2, .int 0]] := rfl
 refine bod_law P hC A1 qual s.heap.objs.size fl cdv _ _ _ _ _ _ _ ro1 R8 ?_
 rw [ef, es, hd]
 intro g h t ad' R2 x2 iv
 cases g <;> first | exact iv.elim | skip
 rename_i u
 have xk : Ext [] [] s.heap ([] ++ [(s.heap.objs.size + 1, s.heap.objs.size + 1)] ++ [(s.heap.objs.size + 1 + 1, s.heap.objs.size + 1 + 1)]) h₁ :=
  ⟨⟨[(s.heap.objs.size + 1, s.heap.objs.size + 1), (s.heap.objs.size + 1 + 1, s.heap.objs.size + 1 + 1)], rfl, fun p hp => by
   rcases List.mem_cons.mp hp with rfl | hp
   · exact ⟨n1, n1⟩
   · rw [List.mem_singleton.mp hp]; exact ⟨n2, n2⟩⟩, fun b o e _ _ => hkeep b o e, fun b vs k e => hkeep b _ e, fun b o e => ⟨o, hkeep b o e⟩⟩
 exact o u h t ad' (Ext.drop (xk.weaken.trans (x5.trans (x6.trans (x7.trans (x8.trans x2))))) n0) iv
end
end Mine
end
section
open PySem PySem.W PySem.Calls PyProof.Rows
namespace Mine
noncomputable def obA : List Addr := [3, 30, 31, 47, 48, 50, 51, 59, 60, 66, 67, 80, 81, 87, 88, 101, 102, 108, 109, 115, 116, 122, 123, 153, 154, 164, 165, 171, 172, 178, 179, 185, 186, 192, 193, 194, 202, 208, 209, 229, 230, 243, 244, 271, 272, 299, 300, 306, 307, 313, 314, 320, 321, 334, 335, 337, 338, 355, 356, 357, 363, 364, 384, 385, 391, 392, 394, 395, 403, 404, 410, 411, 417, 418, 424, 425, 431, 432, 438, 439, 447, 453, 454, 460, 461, 495, 496, 596, 597, 607, 608, 614, 615, 621, 622, 628, 629, 635, 636, 642, 643, 649, 650, 654, 655]
noncomputable def obF : List Addr := [48, 60, 67, 81, 88, 102, 109, 116, 123, 165, 172, 179, 186, 193, 209, 230, 244, 272, 300, 307, 314, 321, 335, 356, 364, 385, 392, 404, 411, 418, 425, 432, 439, 454, 461, 496, 608, 615, 622, 629, 636, 643, 650, 655]
noncomputable def obC : Nat → Addr := fun i => [154, 51, 395, 597].getD i 154
noncomputable def obf : Nat → Addr := fun i => obF.getD i 48
noncomputable def obOf (h : Heap) : List Addr → Frag
 | [] => []
 | a :: r => (h.get? a).elim (obOf h r) fun o => (a, o) :: obOf h r
set_option tactic.hygienic true in
theorem obOf_in (h : Heap) : ∀ as, (obOf h as).In h
 | [], a, o, e => nomatch e
 | b :: r, a, o, e => by
  unfold obOf at e
  cases ho : h.get? b with
  | none => rw [ho] at e; exact obOf_in h r a o e
  | some o' =>
   rw [ho] at e
   have e' : (match a == b with | true => some o' | false => List.lookup a (obOf h r)) = some o := e
   cases q : a == b with
   | true => rw [q] at e'; rw [beq_iff_eq.mp q, ho]; exact e'
   | false => rw [q] at e'; exact obOf_in h r a o e'
noncomputable def vTok : Value → Tok
 | .int _ t => t
 | .str _ t => t
 | _ => 0
noncomputable def nsV (K : Frag) (x : Str) : Option (Option Value) := nsIn K mainGlobals x
noncomputable def nsT (K : Frag) (x : Str) : Tok := vTok ((nsV K x).join.getD .none)
noncomputable def isI (K : Frag) (x : Str) (i : Int) : Bool := nsV K x == some (some (.int i (nsT K x)))
noncomputable def isR (K : Frag) (x : Str) (a : Addr) : Bool := nsV K x == some (some (.ref a))
noncomputable def isM (K : Frag) (C : Addr) (x : Str) (a : Addr) : Bool := findIn K (.ref C) x == some (some (.ref a))
noncomputable def seqOf (o : Obj) : Option (Array Value × Nat) := match o.data with
 | .seq vs n => some (vs, n)
 | _ => none
theorem seqOf_ok {o : Obj} {p : Array Value × Nat} (e : seqOf o = some p) : o.data = .seq p.1 p.2 := by
 unfold seqOf at e
 cases h : o.data with
 | seq vs n => rw [h] at e; cases e; rfl
 | _ => rw [h] at e; cases e
noncomputable def seqAt (K : Frag) (a : Addr) : Option (Obj × Array Value × Nat) := (K.lookup a).bind fun o => (seqOf o).map fun p => (o, p)
noncomputable def seqV (K : Frag) (a : Addr) : Array Value := ((seqAt K a).map (·.2.1)).getD #[]
noncomputable def seqI (K : Frag) (a : Addr) (i : Nat) : Value := (seqV K a).toList.getD i .none
noncomputable def seqT (K : Frag) (a : Addr) (i : Nat) : Tok := vTok (seqI K a i)
theorem seqAt_ok {K : Frag} {a : Addr} {vs : Array Value} (e : (seqAt K a).isSome = true) (h : seqV K a = vs) : ∃ o n, K.lookup a = some o ∧ o.data = .seq vs n := by
 obtain ⟨p, e⟩ := Option.isSome_iff_exists.mp e
 have h' : p.2.1 = vs := by unfold seqV at h; rw [e] at h; exact h
 unfold seqAt at e
 obtain ⟨o, ho, e⟩ := Option.bind_eq_some_iff.mp e
 obtain ⟨q, hq, rfl⟩ := Option.map_eq_some_iff.mp e
 exact ⟨o, q.2, ho, h' ▸ seqOf_ok hq⟩
noncomputable def plainAt (K : Frag) (a : Addr) : Option (Value × Option Addr × Array (Option Value)) := (K.lookup a).map fun o => (o.cls, o.dict, o.slots)
noncomputable def voidOk (K : Frag) : Bool := isR K "VOID" 194 && ((seqAt K 194).isSome && seqV K 194 == #[.int 5 (seqT K 194 0), .int 0 (seqT K 194 1)]) && plainAt K 194 == some (.type "tuple", none, #[])
noncomputable def clsOf (o : Obj) : Option ClassData := match o.data with
 | .cls cd => some cd
 | _ => none
theorem clsOf_ok {o : Obj} {cd : ClassData} (e : clsOf o = some cd) : o.data = .cls cd := by
 unfold clsOf at e
 cases h : o.data with
 | cls c => rw [h] at e; cases e; rfl
 | _ => rw [h] at e; cases e
noncomputable def sl (o : Obj) (i : Nat) : Option Value := o.slots.toList.getD i none
noncomputable def excCOk (K : Frag) (C : Addr) : Bool := ((K.lookup C).bind fun o => (clsOf o).map fun cd => (o.cls == .type "type" && (cd.mro == .ref C :: cd.mro.tail && (cd.abstract == false && cd.hasDel == false))) && (o.slots == #[sl o 0, sl o 1, sl o 2, sl o 3, some (.builtin "Exception.__new__"), sl o 5] && tailIn K bmE cd.mro.tail)) == some true &&
 specialIn K (.ref C) "__call__" == some (some (.builtin "type.__call__")) && instIn K (.ref C) (.type "type") == some true
noncomputable def excSOk (K : Frag) (C : Addr) : Bool := findIn K (.ref C) "__setattr__" == some (some (.builtin "object.__setattr__")) && findIn K (.ref C) "ball" == some none && (clsIn K C).map (fun cd => cd.hasDict && cd.mro == .ref C :: .ref 31 :: bmE) == some true
noncomputable def excGOk (K : Frag) (C : Addr) : Bool := findIn K (.ref C) "__getattribute__" == some (some (.builtin "BaseException.__getattribute__")) && findIn K (.ref C) "__getattr__" == some none
 && findIn K (.ref C) "ball" == some none && mroIn K C (.type "BaseException") == some true && hasDictIn K C
noncomputable def clsOkB (K : Frag) (C : Addr) : Bool := hasDictIn K C && (findIn K (.ref C) "__getattribute__" == some (some (.builtin "object.__getattribute__")) && findIn K (.ref C) "__getattr__" == some none)
 && plainOver K C && findIn K (.ref C) "__setattr__" == some (some (.builtin "object.__setattr__"))
noncomputable def fldB (K : Frag) (C : Addr) (name : Str) : Bool := (findIn K (.ref C) name).map (noGet K) == some true && takerIn K C name == some none
noncomputable def fldOkB (K : Frag) (C : Addr) (c : Nat) : Bool := (List.range 28).all fun k => !fld c k || fldB K C (attrName k)
noncomputable abbrev FV := FuncBody × Scope × Addr × List (Str × Addr) × Addr × Bool × Arguments × Value
noncomputable def fdOf (o : Obj) : Option FuncData := match o.data with
 | .func fd => some fd
 | _ => none
theorem fdOf_ok {o : Obj} {fd : FuncData} (e : fdOf o = some fd) : o.data = .func fd := by
 unfold fdOf at e
 cases h : o.data with
 | func c => rw [h] at e; cases e; rfl
 | _ => rw [h] at e; cases e
noncomputable def fnView (K : Frag) (a : Addr) : Option FV := (K.lookup a).bind fun o => (fdOf o).map fun fd => (fd.body, fd.scope, fd.globals, fd.closure, fd.builtins, codeIn K fd.code fd.qualname, fd.params, fd.defaults)
noncomputable def fw (st : Stmt) (dV : Value) : Option FV := some (.stmts (fnB st), fnSc st, mainGlobals, [], builtinsNs, true, fnAr st, dV)
noncomputable def fWant : List (Option FV) := [
 fw (stIn 3 0) .none, fw (stTop 8) .none, fw (stTop 9) .none, fw (stIn 10 0) .none, fw (stIn 10 1) .none, fw (stIn 10 3) .none, fw (stIn 10 4) .none, fw (stIn 10 5) .none, fw (stIn 10 6) .none, fw (stTop 12) .none, fw (stTop 13) .none, fw (stTop 14) .none, fw (stTop 16) .none, fw (stTop 17) .none, fw (stIn 29 0) (.ref 202), fw (stIn 29 3) .none, fw (stIn 29 5) .none, fw (stIn 29 9) .none, fw (stIn 29 13) .none, fw (stIn 29 14) .none, fw (stIn 29 15) .none, fw (stIn 29 16) .none, fw (stIn 29 18) .none, fw (stIn 30 0) .none, fw (stIn 30 1) (.ref 357), fw (stIn 30 4) .none, fw (stIn 30 5) .none, fw (stTop 34) .none, fw (stTop 35) .none, fw (stTop 36) .none, fw (stTop 37) .none, fw (stTop 38) .none, fw (stTop 39) .none, fw (stIn 42 0) (.ref 447), fw (stIn 42 1) .none, fw (stIn 42 6) .none, fw (stTop 44) .none, fw (stTop 45) .none, fw (stTop 46) .none, fw (stTop 47) .none, fw (stTop 48) .none, fw (stTop 49) .none, fw (stTop 50) .none, fw (stTop 51) .none]
noncomputable def kFns (K : Frag) : List (Option FV) := obF.map (fnView K)
noncomputable def kChecks (K : Frag) : List Bool := [
 conL.all fun q => isI K q.1 q.2,
 nsV K "READ" == some (some (.str ⟨([114, 101, 97, 100] : List Nat).toArray⟩ (nsT K "READ"))),
 voidOk K,
 nonL.all fun x => nsV K x == some none,
 gL.all fun q => isR K q.1 (obf q.2),
 cL.all fun q => isR K q.1 (obC q.2),
 obF.all fun a => keepIn K (.ref a),
 [154, 51, 395, 597].all fun a => keepIn K (.ref a),
 obF.all fun a => isFn K (.ref a),
 makesIn K 154,
 makesIn K 395,
 makesIn K 597,
 mL.all fun q => isM K (obC q.1) q.2.1 (obf q.2.2),
 excCOk K 51,
 excSOk K 51,
 excGOk K 51,
 ktsIn K 51 "BaseException",
 clsOkB K 154,
 clsOkB K 395,
 clsOkB K 597,
 fldOkB K 154 0,
 fldOkB K 51 1,
 fldOkB K 395 2,
 fldOkB K 597 3,
 (seqAt K 202).isSome && seqV K 202 == #[seqI K 202 0],
 (seqAt K 357).isSome && seqV K 357 == #[.none],
 (seqAt K 447).isSome && seqV K 447 == #[seqI K 447 0, .bool true, .int 4096 (seqT K 447 2)],
 isR K "law" 655]
theorem ck {K : Frag} (h : (kChecks K).all id = true) (i : Nat) {b : Bool} (e : (kChecks K)[i]? = some b) : b = true :=
 List.all_eq_true.mp h b (List.mem_of_getElem? e)
theorem fv {K : Frag} (V : kFns K = fWant) (i : Nat) {x : Option FV} (e : fWant[i]? = some x) {a : Addr} (ea : obF[i]? = some a) : fnView K a = x := by
 have h : (kFns K)[i]? = some x := by rw [V]; exact e
 unfold kFns at h
 rw [List.getElem?_map, ea] at h
 exact Option.some.inj h
section
variable {K : Frag} {h : Heap} {mg mb : Str → Option Value} {q : Program} {loose : List Str}
set_option tactic.hygienic true in
theorem isR_ok (X : K.In h) (T : TopRead q loose mg mb h) {x : Str} {a : Addr} (e : isR K x a = true) : mg x = some (.ref a) := mg_of X T.g (beq_iff_eq.mp e)
set_option tactic.hygienic true in
theorem void_ok (X : K.In h) (T : TopRead q loose mg mb h) (e : voidOk K = true) : ∃ a t u m, mg "VOID" = some (.ref a) ∧ h.get? a = some (tupObj #[.int 5 t, .int 0 u] m) := by
 unfold voidOk at e
 obtain ⟨e, e3⟩ := Bool.and_eq_true_iff.mp e
 obtain ⟨e1, e2⟩ := Bool.and_eq_true_iff.mp e
 obtain ⟨e4, e5⟩ := Bool.and_eq_true_iff.mp e2
 obtain ⟨o, n, ho, hd⟩ := seqAt_ok e4 (beq_iff_eq.mp e5)
 have e3 := beq_iff_eq.mp e3
 unfold plainAt at e3
 rw [ho] at e3
 have e6 := Option.some.inj e3
 refine ⟨194, seqT K 194 0, seqT K 194 1, n, isR_ok X T e1, (X _ _ ho).trans ?_⟩
 cases o
 cases e6
 cases hd
 rfl
theorem cd_eq {cd : ClassData} {m : List Value} (h1 : cd.mro = m) (h2 : cd.abstract = false) (h3 : cd.hasDel = false) : cd = { cd with mro := m, abstract := false, hasDel := false } := by
 cases cd
 cases h1
 cases h2
 cases h3
 rfl
theorem obj_eq {o : Obj} {c : Value} {d : Data} {s : Array (Option Value)} (h1 : o.cls = c) (h2 : o.data = d) (h3 : o.slots = s) : o = ⟨c, o.dict, d, s⟩ := by
 cases o
 cases h1
 cases h2
 cases h3
 rfl
set_option tactic.hygienic true in
theorem excC_ok {C : Addr} (e : excCOk K C = true) : ExcC K C := by
 unfold excCOk at e
 obtain ⟨e, e4⟩ := Bool.and_eq_true_iff.mp e
 obtain ⟨e, e3⟩ := Bool.and_eq_true_iff.mp e
 refine ⟨?_, beq_iff_eq.mp e3, beq_iff_eq.mp e4⟩
 obtain ⟨o, ho, e⟩ := Option.bind_eq_some_iff.mp (beq_iff_eq.mp e)
 obtain ⟨cd, hc, e⟩ := Option.map_eq_some_iff.mp e
 obtain ⟨e, f⟩ := Bool.and_eq_true_iff.mp e
 obtain ⟨f1, f2⟩ := Bool.and_eq_true_iff.mp f
 obtain ⟨e1, e⟩ := Bool.and_eq_true_iff.mp e
 obtain ⟨e2, e⟩ := Bool.and_eq_true_iff.mp e
 obtain ⟨e3, e4⟩ := Bool.and_eq_true_iff.mp e
 exact ⟨cd, cd.mro.tail, o.dict, sl o, ho.trans (congrArg some (obj_eq (beq_iff_eq.mp e1) ((clsOf_ok hc).trans (congrArg Data.cls (cd_eq (beq_iff_eq.mp e2) (beq_iff_eq.mp e3) (beq_iff_eq.mp e4)))) (beq_iff_eq.mp f1))), f2⟩
theorem excS_ok {C : Addr} (e : excSOk K C = true) : ExcS K C "ball" := by
 unfold excSOk at e
 obtain ⟨e, e3⟩ := Bool.and_eq_true_iff.mp e
 obtain ⟨e1, e2⟩ := Bool.and_eq_true_iff.mp e
 obtain ⟨cd, hc, e⟩ := Option.map_eq_some_iff.mp (beq_iff_eq.mp e3)
 obtain ⟨q1, q2⟩ := Bool.and_eq_true_iff.mp e
 exact ⟨beq_iff_eq.mp e1, beq_iff_eq.mp e2, 31, cd, hc, beq_iff_eq.mp q2, q1⟩
theorem excG_ok {C : Addr} (e : excGOk K C = true) : ExcG K C "ball" := by
 unfold excGOk at e
 obtain ⟨e, f⟩ := Bool.and_eq_true_iff.mp e
 obtain ⟨e, d⟩ := Bool.and_eq_true_iff.mp e
 obtain ⟨e, c⟩ := Bool.and_eq_true_iff.mp e
 obtain ⟨a, b⟩ := Bool.and_eq_true_iff.mp e
 exact ⟨beq_iff_eq.mp a, beq_iff_eq.mp b, beq_iff_eq.mp c, beq_iff_eq.mp d, f⟩
theorem clsOk_ok {C : Addr} (e : clsOkB K C = true) : ClsOk K C := by
 unfold clsOkB at e
 obtain ⟨e, d⟩ := Bool.and_eq_true_iff.mp e
 obtain ⟨e, c⟩ := Bool.and_eq_true_iff.mp e
 obtain ⟨a, b⟩ := Bool.and_eq_true_iff.mp e
 exact ⟨a, fun u => b, c, beq_iff_eq.mp d⟩
theorem fldOk_ok {C : Addr} {c : Nat} (e : fldOkB K C c = true) (k : Nat) (hf : fld c k = true) : FldOk K C (attrName k) := by
 have z : (!fld c k || fldB K C (attrName k)) = true := List.all_eq_true.mp e k (List.mem_range.mpr (fld_lt hf))
 rw [hf] at z
 obtain ⟨a, b⟩ := Bool.and_eq_true_iff.mp z
 obtain ⟨v, hv, z⟩ := Option.map_eq_some_iff.mp (beq_iff_eq.mp a)
 exact ⟨⟨v, hv, z⟩, beq_iff_eq.mp b⟩
theorem at_of {α : Type} {F : α → Prop} {l : List α} (h : ∀ a ∈ l, F a) (i : Nat) : at_ F l i := by
 unfold at_
 rw [List.getD_eq_getElem?_getD, List.getElem?_map]
 cases e : l[i]? with
 | none => exact trivial
 | some a => exact h a (List.mem_of_getElem? e)
theorem getD_of {α : Type} {p : α → Bool} {l : List α} {d : α} (h : l.all p = true) (hd : d ∈ l) (i : Nat) : p (l.getD i d) = true := by
 rw [List.getD_eq_getElem?_getD]
 cases e : l[i]? with
 | none => exact List.all_eq_true.mp h d hd
 | some a => exact List.all_eq_true.mp h a (List.mem_of_getElem? e)
theorem fn_nil (i : Nat) : ([] : List Prop).getD i True := trivial
theorem fn_cons {p : Prop} {l : List Prop} (h : p) (t : ∀ i, l.getD i True) : ∀ i, (p :: l).getD i True
 | 0 => h
 | i + 1 => t i
end
theorem ctx_cls {K : Frag} (h : (kChecks K).all id = true) : ∀ c, c = 0 ∨ c = 2 ∨ c = 3 → ClsOk K (obC c) := fun c e => by
 rcases e with rfl | rfl | rfl
 · exact clsOk_ok (ck h 17 rfl)
 · exact clsOk_ok (ck h 18 rfl)
 · exact clsOk_ok (ck h 19 rfl)
theorem ctx_fld {K : Frag} (h : (kChecks K).all id = true) : ∀ c k, fld c k = true → FldOk K (obC c) (attrName k)
 | 0 => fldOk_ok (ck h 20 rfl)
 | 1 => fldOk_ok (ck h 21 rfl)
 | 2 => fldOk_ok (ck h 22 rfl)
 | 3 => fldOk_ok (ck h 23 rfl)
 | c + 4 => fun k e => nomatch e
noncomputable def mkC (w : World) (h : Heap) (K : Frag) (q : Program) (loose : List Str) (mg mb : Str → Option Value) (X : K.In h) (T : TopRead q loose mg mb h) (sys : (h.get? sysModules).isSome = true) (hk : (kChecks K).all id = true) : Ctx :=
 { prog := PySem.Challenge.pw_rr0032_01, w := w, h₀ := h, K := K, q := q, loose := loose, mg := mg, mb := mb, cls := obC, lim := fun _ _ _ => True, pin := [], X := X, T := T, sys := sys, exc := have h := hk; (ck h 16 rfl), clsOk := ctx_cls hk, fldOk := ctx_fld hk }
noncomputable def Cur : Nat → (List Value → Prop) → Prop
 | 0, P => P []
 | n + 1, P => ∀ v, Cur n fun vs => P (v :: vs)
theorem cur_ok : ∀ {n : Nat} {P : List Value → Prop} {vs : List Value}, Cur n P → vs.length = n → P vs
 | 0, P, vs, h, e => by rw [List.eq_nil_of_length_eq_zero e]; exact h
 | n + 1, P, v :: vs, h, e => cur_ok (n := n) (P := fun vs => P (v :: vs)) (h v) (Nat.succ.inj (show vs.length.succ = n.succ from e))
theorem cur_map : ∀ {n : Nat} {P Q : List Value → Prop}, (∀ {vs}, P vs → Q vs) → Cur n P → Cur n Q
 | 0, P, Q, f, h => f h
 | n + 1, P, Q, f, h => fun v => cur_map f (h v)
theorem fd_eq {fd : FuncData} {b : List Stmt} {s : Scope} {p : Arguments} {d : Value} (h1 : fd.body = .stmts b) (h2 : fd.scope = s) (h3 : fd.globals = mainGlobals) (h4 : fd.closure = []) (h5 : fd.builtins = builtinsNs) (h6 : fd.params = p) (h7 : fd.defaults = d) :
 fd = fnOf fd.name fd.qualname p b s d fd.kwdefaults fd.doc fd.pyModule fd.annotations fd.code fd.closureTuple := by
 cases fd
 cases h1
 cases h2
 cases h3
 cases h4
 cases h5
 cases h6
 cases h7
 rfl
theorem fnAt_of {C : Ctx} {f : Addr} {st : Stmt} {dV : Value} {ps : List Str} {a : Nat} {dfl : List AV} (dvs : List Value) (e : fnView C.K f = fw st dV) (hd : ∀ ad h, VAll ad h dvs dfl)
 (hb : ∀ (s : Shared), C.K.In s.heap → ∀ (name qual : Str) (kV doc pm cdv ct : Value) (an : Option Addr), Cur a fun vs => BindsTo s (fnOf name qual (fnAr st) (fnB st) (fnSc st) dV kV doc pm an cdv ct) ⟨vs, []⟩ (ps.zip (vs ++ dvs))) : FnAt C f (fnB st) (fnSc st) ps a dfl := by
 obtain ⟨o, ho, e⟩ := Option.bind_eq_some_iff.mp e
 obtain ⟨fd, hf, e⟩ := Option.map_eq_some_iff.mp e
 refine ⟨o, fd, ⟨ho, fdOf_ok hf⟩, ⟨congrArg (·.1) e, congrArg (·.2.1) e, congrArg (·.2.2.1) e, congrArg (·.2.2.2.1) e, congrArg (·.2.2.2.2.1) e⟩, congrArg (·.2.2.2.2.2.1) e, dvs, hd, fun s vs X hl => ?_⟩
 have z := cur_ok (hb s X fd.name fd.qualname fd.kwdefaults fd.doc fd.pyModule fd.code fd.closureTuple fd.annotations) hl
 rw [fd_eq (congrArg (·.1) e) (congrArg (·.2.1) e) (congrArg (·.2.2.1) e) (congrArg (·.2.2.2.1) e) (congrArg (·.2.2.2.2.1) e) (congrArg (·.2.2.2.2.2.2.1) e) (congrArg (·.2.2.2.2.2.2.2) e)]
 exact z
theorem fnP_of {C : Ctx} {f : Addr} {st : Stmt} {ps : List Str} {a : Nat} (e : fnView C.K f = fw st .none)
 (hb : ∀ (name qual : Str) (kV doc pm cdv ct : Value) (an : Option Addr), Cur a fun vs => bindArgs (fnOf name qual (fnAr st) (fnB st) (fnSc st) .none kV doc pm an cdv ct) ⟨vs, []⟩ = pure (ps.zip (vs ++ []))) : FnAt C f (fnB st) (fnSc st) ps a [] :=
 fnAt_of [] e (fun _ _ => .nil) fun s _ n q k d p c t an => cur_map BindsTo.of_eq (hb n q k d p c t an)
section
variable {C : Ctx}
theorem a_14 (V : kFns C.K = fWant) (h : (kChecks C.K).all id = true) : FnAt C 209 (fnB (stIn 29 0)) (fnSc (stIn 29 0)) (["self", "symbols", "max_heap"] : List Str) 3 [] := by
 obtain ⟨e1, e2⟩ := Bool.and_eq_true_iff.mp (show ((seqAt C.K 202).isSome && seqV C.K 202 == #[seqI C.K 202 0]) = true from (ck h 24 rfl))
 obtain ⟨o, n, ho, hd⟩ := seqAt_ok e1 (beq_iff_eq.mp e2)
 exact fnAt_of [] (fv V 14 rfl rfl) (fun _ _ => .nil) fun s X _ _ _ _ _ _ _ _ _ _ _ => BindsTo.of_defaults rfl (X _ _ ho) hd rfl rfl
theorem a_24 (V : kFns C.K = fWant) (h : (kChecks C.K).all id = true) : FnAt C 364 (fnB (stIn 30 1)) (fnSc (stIn 30 1)) (["self", "cells", "tail"] : List Str) 2 [AV.none] := by
 obtain ⟨e1, e2⟩ := Bool.and_eq_true_iff.mp (show ((seqAt C.K 357).isSome && seqV C.K 357 == #[.none]) = true from (ck h 25 rfl))
 obtain ⟨o, n, ho, hd⟩ := seqAt_ok e1 (beq_iff_eq.mp e2)
 exact fnAt_of [.none] (fv V 24 rfl rfl) (fun _ _ => .cons .none .nil) fun s X _ _ _ _ _ _ _ _ _ _ => BindsTo.of_defaults rfl (X _ _ ho) hd rfl rfl
theorem a_33 (V : kFns C.K = fWant) (h : (kChecks C.K).all id = true) : FnAt C 454 (fnB (stIn 42 0)) (fnSc (stIn 42 0)) (["self", "symbols", "code", "max_heap", "occurs", "max_bits"] : List Str) 4 [AV.bool true, AV.int 4096] := by
 obtain ⟨e1, e2⟩ := Bool.and_eq_true_iff.mp (show ((seqAt C.K 447).isSome && seqV C.K 447 == #[seqI C.K 447 0, .bool true, .int 4096 (seqT C.K 447 2)]) = true from (ck h 26 rfl))
 obtain ⟨o, n, ho, hd⟩ := seqAt_ok e1 (beq_iff_eq.mp e2)
 exact fnAt_of [.bool true, .int 4096 (seqT C.K 447 2)] (fv V 33 rfl rfl) (fun _ _ => .cons (.bool _) (.cons (.int _ _) .nil)) fun s X _ _ _ _ _ _ _ _ _ _ _ _ => BindsTo.of_defaults rfl (X _ _ ho) hd rfl rfl
theorem a_43 (V : kFns C.K = fWant) : FnAt C 655 (fnB (stTop 51)) (fnSc (stTop 51)) (["script"] : List Str) 1 [] := fnP_of (fv V 43 rfl rfl) fun _ _ _ _ _ _ _ _ _ => rfl
end
section
variable {w : World} {h₀ : Heap} {K : Frag} {q : Program} {loose : List Str} {mg mb : Str → Option Value} {X : K.In h₀} {T : TopRead q loose mg mb h₀} {sys : (h₀.get? sysModules).isSome = true} {h : (kChecks K).all id = true}
theorem law_g (X : K.In h₀) (T : TopRead q loose mg mb h₀) (h : (kChecks K).all id = true) : mg "law" = some (.ref 655) := isR_ok X T (ck h 27 rfl)
theorem fnP_ok (V : kFns K = fWant) : ∀ k, (fnP (mkC w h₀ K q loose mg mb X T sys h) obf).getD k True :=
 fn_cons (fnP_of (fv V 0 rfl rfl) fun n q k d p c t a v v => rfl) <| fn_cons (fnP_of (fv V 1 rfl rfl) fun n q k d p c t a => rfl) <| fn_cons (fnP_of (fv V 2 rfl rfl) fun n q k d p c t a => rfl) <| fn_cons (fnP_of (fv V 3 rfl rfl) fun n q k d p c t a v => rfl) <| fn_cons (fnP_of (fv V 4 rfl rfl) fun n q k d p c t a v v => rfl) <| fn_cons (fnP_of (fv V 5 rfl rfl) fun n q k d p c t a v v v => rfl) <| fn_cons (fnP_of (fv V 6 rfl rfl) fun n q k d p c t a v v v => rfl) <| fn_cons (fnP_of (fv V 7 rfl rfl) fun n q k d p c t a v v => rfl) <| fn_cons (fnP_of (fv V 8 rfl rfl) fun n q k d p c t a v v => rfl) <| fn_cons (fnP_of (fv V 9 rfl rfl) fun n q k d p c t a v => rfl) <| fn_cons (fnP_of (fv V 10 rfl rfl) fun n q k d p c t a v v v => rfl) <| fn_cons (fnP_of (fv V 11 rfl rfl) fun n q k d p c t a v v => rfl) <| fn_cons (fnP_of (fv V 12 rfl rfl) fun n q k d p c t a v => rfl) <| fn_cons (fnP_of (fv V 13 rfl rfl) fun n q k d p c t a v => rfl) <| fn_cons (a_14 V h) <| fn_cons (fnP_of (fv V 15 rfl rfl) fun n q k d p c t a v v => rfl) <| fn_cons (fnP_of (fv V 16 rfl rfl) fun n q k d p c t a v v => rfl) <| fn_cons (fnP_of (fv V 17 rfl rfl) fun n q k d p c t a v v => rfl) <| fn_cons (fnP_of (fv V 18 rfl rfl) fun n q k d p c t a v v => rfl) <| fn_cons (fnP_of (fv V 19 rfl rfl) fun n q k d p c t a v v => rfl) <| fn_cons (fnP_of (fv V 20 rfl rfl) fun n q k d p c t a v v => rfl) <| fn_cons (fnP_of (fv V 21 rfl rfl) fun n q k d p c t a v v => rfl) <| fn_cons (fnP_of (fv V 22 rfl rfl) fun n q k d p c t a v v => rfl) <| fn_cons (fnP_of (fv V 23 rfl rfl) fun n q k d p c t a v v v => rfl) <| fn_cons (a_24 V h) <| fn_cons (fnP_of (fv V 25 rfl rfl) fun n q k d p c t a v v v => rfl) <| fn_cons (fnP_of (fv V 26 rfl rfl) fun n q k d p c t a v v v => rfl) <| fn_cons (fnP_of (fv V 27 rfl rfl) fun n q k d p c t a v v => rfl) <| fn_cons (fnP_of (fv V 28 rfl rfl) fun n q k d p c t a v => rfl) <| fn_cons (fnP_of (fv V 29 rfl rfl) fun n q k d p c t a v => rfl) <| fn_cons (fnP_of (fv V 30 rfl rfl) fun n q k d p c t a v v v v => rfl) <| fn_cons (fnP_of (fv V 31 rfl rfl) fun n q k d p c t a v v v v v v => rfl) <| fn_cons (fnP_of (fv V 32 rfl rfl) fun n q k d p c t a v v v => rfl) <| fn_cons (a_33 V h) <| fn_cons (fnP_of (fv V 34 rfl rfl) fun n q k d p c t a v => rfl) <| fn_cons (fnP_of (fv V 35 rfl rfl) fun n q k d p c t a v v => rfl) <| fn_cons (fnP_of (fv V 36 rfl rfl) fun n q k d p c t a v v => rfl) <| fn_cons (fnP_of (fv V 37 rfl rfl) fun n q k d p c t a v v => rfl) <| fn_cons (fnP_of (fv V 38 rfl rfl) fun n q k d p c t a v => rfl) <| fn_cons (fnP_of (fv V 39 rfl rfl) fun n q k d p c t a v v v v => rfl) <| fn_cons (fnP_of (fv V 40 rfl rfl) fun n q k d p c t a v v v v => rfl) <| fn_cons (fnP_of (fv V 41 rfl rfl) fun n q k d p c t a v v v v v => rfl) <| fn_cons (fnP_of (fv V 42 rfl rfl) fun n q k d p c t a v => rfl) <| fn_nil
theorem pcOf (V : kFns K = fWant) : PC (mkC w h₀ K q loose mg mb X T sys h) obf where
 lim := fun _ _ _ => trivial
 con := at_of fun p m => ⟨_, mg_of X T.g (beq_iff_eq.mp (List.all_eq_true.mp (ck h 0 rfl) p m))⟩
 rd := ⟨_, mg_of X T.g (beq_iff_eq.mp (ck h 1 rfl))⟩
 void := void_ok X T (ck h 2 rfl)
 non := at_of fun x m => mg_none_of X T.g (beq_iff_eq.mp (List.all_eq_true.mp (ck h 3 rfl) x m))
 gf := at_of fun p m => isR_ok X T (List.all_eq_true.mp (ck h 4 rfl) p m)
 gc := at_of fun p m => isR_ok X T (List.all_eq_true.mp (ck h 5 rfl) p m)
 kf := getD_of (p := fun a => keepIn K (.ref a)) (ck h 6 rfl) (.head _)
 kc := getD_of (p := fun a => keepIn K (.ref a)) (ck h 7 rfl) (.head _)
 isf := getD_of (p := fun a => isFn K (.ref a)) (ck h 8 rfl) (.head _)
 mk0 := (ck h 9 rfl)
 mk2 := (ck h 10 rfl)
 mk3 := (ck h 11 rfl)
 m := at_of fun p m => beq_iff_eq.mp (List.all_eq_true.mp (ck h 12 rfl) p m)
 fn := fnP_ok V
 excC := excC_ok (ck h 13 rfl)
 excS := excS_ok (ck h 14 rfl)
 ball := excG_ok (ck h 15 rfl)
end
end Mine
end
section
open PySem PySem.W PySem.Calls PyProof.Rows
namespace Mine
noncomputable abbrev PW : Program := PySem.Challenge.pw_rr0032_01
noncomputable def qV : Program := { PW with main := { PW.main with body := [stTop 51] } }
noncomputable def looseV : List Str := (["_wall", "ClausemillError", "PrologError", "A_NIL", "A_SYSTEM", "F_DOT", "F_ERROR", "fixed_atoms", "fixed_functors", "Symbols", "system_error", "formal_of", "resource_error", "is_small", "is_capital",
 "REF", "SRF", "STR", "LIS", "CON", "INT", "FUN", "VOID", "VISIT", "BUILD", "Cells", "Store", "ANY", "ROW_CELLS", "atom_cell", "upper_text", "lower_text", "spans", "sub_atom_rows", "splits", "READ", "Areas",
 "_law_pinch", "_law_text", "_law_any", "_law_parts", "_law_listed", "_law_rows_right", "_law_cases_right"] : List String).map Str.ofString
noncomputable abbrev pos0 : Pos := ⟨0, 0, 0, 0⟩
noncomputable def o11 : Obj := { cls := Value.type "tuple", data := Data.seq #[] }
noncomputable def o12 : Obj := { cls := Value.none, data := Data.fields #[] }
noncomputable def o13 : Obj := { cls := Value.type "code", data := Data.fields #[Value.str (Str.ofString "<module>") 182, Value.str (Str.ofString "<module>") 183, Value.str (Str.ofString "/claim/cut.py") 184, Value.int 1 0, Value.int 0 0, Value.int 0 0, Value.int 0 0, Value.int 0 0, Value.ref 11, Value.bool false, Value.int 181 0, Value.ref 12, Value.none, Value.none, Value.none, Value.none, Value.int 185 0, Value.int 1 0, Value.str (Str.ofString "/claim/cut.py") 186] }
noncomputable def o14 : Obj := { cls := Value.type "frame", slots := #[some (Value.ref 13), some (Value.ref 3), some (Value.ref 3), none, some (Value.str (Str.ofString "__main__") 164), none, some (Value.ref 0)] }
noncomputable def hEnv : Env := { scope := PW.main.scope, locals := mainNs, globals := mainNs, cells := [], code := .ref 13, frame := some 14 }
noncomputable def cE : Code := .body (behindTheImports PW) hEnv
noncomputable def BF : List PySem.Frame := [topFrame pos0]
noncomputable def SaH (P : Params) : Heap := ⟨⟨[boot_o_0 P, boot_o_1 P, boot_o_2 P, boot_o_3 P, boot_o_4 P, boot_o_5 P, boot_o_6 P, boot_o_7 P, boot_o_8 P, boot_o_9 P, boot_o_10 P, o11, o12, o13, o14]⟩, { }⟩
noncomputable def trB (P : Params) : BT :=
 .node (boot_o_0 P)
  (.node (boot_o_1 P) (.node (boot_o_3 P) (.node (boot_o_7 P) .nil .nil) (.node o11 .nil .nil)) (.node (boot_o_5 P) (.node (boot_o_9 P) .nil .nil) (.node o13 .nil .nil)))
  (.node (boot_o_2 P) (.node (boot_o_4 P) (.node (boot_o_8 P) .nil .nil) (.node o12 .nil .nil)) (.node (boot_o_6 P) (.node (boot_o_10 P) .nil .nil) (.node o14 .nil .nil)))
noncomputable def Sb (w : World) (os : OsState) : SharedT := ⟨trB w.params, 15, { }, #[], { }, 187, os⟩
noncomputable abbrev annV : Option Value := some (.ref 6)
theorem hpre (w : World) : (fun os => topGo treeTable PW w 11 annV 12 ⟨boot_heap w.params, #[], boot_drawn, boot_toks, os⟩ (topStub PW)) = fun os => some (⟨SaH w.params, #[], { }, 187, os⟩, ⟨denote treeTable cE, cE, pos0, BF⟩) := by kernel_rfl
theorem hblock (w : World) : (fun os => segRun treeTable PW w 11 annV 1 1 ⟨SaH w.params, #[], { }, 187, os⟩ (blockOf (behindTheImports PW) hEnv cE pos0 BF)) = fun os => some (.next, (Sb w os).abs, cE, pos0) := by kernel_rfl
noncomputable abbrev ObsT := (List (Option FV)) × Bool
noncomputable def obsV (s : Shared) : ObsT := (kFns (obOf s.heap obA), (kChecks (obOf s.heap obA)).all id && (s.heap.get? sysModules).isSome)
noncomputable def goodB (h0 : Heap) (s : Shared) : Bool := staticsOk (importedModules PW.main.body) h0 s.heap && namesBound PW s.heap && gensDone s && laidKept h0 s.heap
noncomputable abbrev XtV : Shared → Bool := fun s => recOk [] s
theorem hrun (w : World) : (fun os => (segRunT treeTable PW w 11 annV 1 4086 (Sb w os) ⟨(execs (behindTheImports PW) hEnv).wrap doneF deadEnd id id, cE, pos0, BF⟩).bind (fun r => match r with
 | (.next, s', c', p') => (topRun treeTable PW w 11 annV 2 s'.abs ⟨doneF .next, cE, p', [topFrame pos0]⟩).map (fun s => (c', goodB (boot_heap w.params) s, openSeen qV looseV (importedModules PW.main.body) XtV true s, obsV s))
 | _ => none)) = fun os => some (cE, true, openGood qV looseV, (fWant, true)) := by
 rw [Fast.te10110043849684766642, Fast.te14082659384304107361, Fast.te4187177175401517315, Fast.te14364793385576792824, Fast.te5923862056798008813, Fast.te12563942051412417395]
 kernel_rfl
end Mine
end
section
open PySem PySem.W PySem.Calls PyProof.Rows
namespace Mine
theorem hsize (w : World) : ((boot_heap w.params).isNs mainGlobals && (Array.mk ([] : List GenState)).size == 0, (boot_heap w.params).objs.size, (boot_heap w.params).nsMap mainGlobals "__annotations__") = (true, 11, annV) := by kernel_rfl
theorem hopening : opening PW = plainProg PW.main.scope.names := by kernel_rfl
theorem hfence (s : Shared) : fenceModules? PW s = some s := by kernel_rfl
theorem hleft1 (w : World) (os : OsState) : ∃ (s' : SharedT) (p' : Pos) (s₁ : Shared), segRunT treeTable PW w 11 annV 1 4086 (Sb w os) ⟨(execs (behindTheImports PW) hEnv).wrap doneF deadEnd id id, cE, pos0, BF⟩ = some (.next, s', cE, p') ∧
 topRun treeTable PW w 11 annV 2 s'.abs ⟨doneF .next, cE, p', [topFrame pos0]⟩ = some s₁ ∧ goodB (boot_heap w.params) s₁ = true ∧ openSeen qV looseV (importedModules PW.main.body) XtV true s₁ = openGood qV looseV ∧ obsV s₁ = (fWant, true) := by
 have hr := congrFun (hrun w) os
 obtain ⟨⟨f, s', c', p'⟩, h1, h2⟩ := Option.bind_eq_some_iff.mp hr
 cases f with
 | next =>
  dsimp only at h2
  obtain ⟨s₁, h3, h4⟩ := Option.map_eq_some_iff.mp h2
  obtain ⟨l0, h4⟩ := Prod.mk.inj h4
  obtain ⟨l1, h4⟩ := Prod.mk.inj h4
  obtain ⟨l2, l3⟩ := Prod.mk.inj h4
  subst l0
  exact ⟨s', p', s₁, h1, h3, l1, l2, l3⟩
 | _ => cases h2
theorem hleft2 (w : World) (os : OsState) (s' : SharedT) (p' : Pos) (s₁ : Shared) (h1 : segRunT treeTable PW w 11 annV 1 4086 (Sb w os) ⟨(execs (behindTheImports PW) hEnv).wrap doneF deadEnd id id, cE, pos0, BF⟩ = some (.next, s', cE, p'))
 (h3 : topRun treeTable PW w 11 annV 2 s'.abs ⟨doneF .next, cE, p', [topFrame pos0]⟩ = some s₁) : topRun treeTable PW w 11 annV 8270 ⟨boot_heap w.params, #[], boot_drawn, boot_toks, os⟩ (topStub PW) = some s₁ := by
 have q := segRun_of h1
 have k1 : topRun treeTable PW w 11 annV (4086 + 2) (Sb w os).abs (restOf (behindTheImports PW ++ []) hEnv cE pos0 [topFrame pos0]) = some s₁ := piece_app (q := pos0) q (piece_nil h3)
 rw [List.append_nil] at k1
 have k2 : topRun treeTable PW w 11 annV (1 + (4086 + 2)) ⟨SaH w.params, #[], { }, 187, os⟩ ⟨denote treeTable (.body (behindTheImports PW) hEnv), cE, pos0, [topFrame pos0]⟩ = some s₁ := piece_block (q := pos0) (congrFun (hblock w) os) k1
 have k3 : topRun treeTable PW w 11 annV (12 + (1 + (4086 + 2))) ⟨boot_heap w.params, #[], boot_drawn, boot_toks, os⟩ (topStub PW) = some s₁ := go_top (congrFun (hpre w) os) k2
 have k4 := topRun_mono 4169 _ _ _ _ k3
 have e : 12 + (1 + (4086 + 2)) + 4169 = 8270 := rfl
 rw [e] at k4
 exact k4
theorem head_left : LeftO PW qV looseV XtV obsV (fun _ => (fWant, true)) 8270 := fun w => by
 obtain ⟨⟨h, gs, d, k, os⟩, e, e'⟩ := Option.map_eq_some_iff.mp (boot_open (p := PW) (N := 8270) hopening rfl hfence w)
 obtain ⟨rfl, rfl, rfl, rfl⟩ : h = boot_heap w.params ∧ gs = #[] ∧ d = boot_drawn ∧ k = boot_toks := by simpa using e'
 obtain ⟨z1, z2, z3⟩ : _ ∧ _ ∧ _ := by simpa only [Prod.mk.injEq] using hsize w
 obtain ⟨s', p', s₁, h1, h3, l1, l2, l3⟩ := hleft1 w os
 have r := hleft2 w os s' p' s₁ h1 h3
 have t : topFrom treeTable PW w 8270 ⟨boot_heap w.params, #[], boot_drawn, boot_toks, os⟩ = some s₁ := by
  unfold topFrom
  dsimp only
  rw [z1, z2, z3]
  dsimp only
  rw [r]
  have l1' : (staticsOk (importedModules PW.main.body) (boot_heap w.params) s₁.heap && namesBound PW s₁.heap && gensDone s₁ && laidKept (boot_heap w.params) s₁.heap) = true := l1
  rw [Option.bind_some, l1']
 unfold openEnds
 rw [e, Option.bind_some, t, Option.map_some, l2, l3]
end Mine
end
section
open PySem PySem.W PySem.Calls PyProof.Rows
namespace Mine
noncomputable def YPv (w : World) (h : Heap) : Prop := ∃ K : Frag, K.In h ∧ kFns K = fWant ∧ (kChecks K).all id = true ∧ (h.get? sysModules).isSome = true
theorem ypv_of (w : World) (s : Shared) (e : obsV s = (fWant, true)) : YPv w s.heap := by
 obtain ⟨e1, e2⟩ := Prod.mk.inj e
 obtain ⟨e2, e3⟩ := Bool.and_eq_true_iff.mp e2
 exact ⟨_, obOf_in _ _, e1, e2, e3⟩
theorem ypv_keeps (w : World) (h h' : Heap) (y : YPv w h) (k : ∀ b o, h.get? b = some o → h'.get? b = some o) : YPv w h' := by
 obtain ⟨K, X, V, hk, hs⟩ := y
 obtain ⟨o, ho⟩ := Option.isSome_iff_exists.mp hs
 exact ⟨K, X.keeps k, V, hk, by rw [k _ _ ho]; rfl⟩
theorem ints_of {R : WRecords} : ∀ {xs : List WData}, WShape.hasItems R xs .int = true → ∃ ns : List Int, xs = ns.map .int
 | [], _ => ⟨[], rfl⟩
 | x :: r, h => by
  have h' := Bool.and_eq_true_iff.mp (show (WShape.has R x .int && WShape.hasItems R r .int) = true from h)
  obtain ⟨i, rfl⟩ := hasW_int h'.1
  obtain ⟨ns, rfl⟩ := ints_of h'.2
  exact ⟨i :: ns, rfl⟩
noncomputable def wInv (P : Params) (h : Heap) (v : Value) : WData → Prop
 | .int i => ∃ t, v = .int i t
 | .list xs => ∃ a vs, v = .ref a ∧ h.get? a = some { cls := .type "list", data := .seq vs.toArray } ∧ WellAll P h vs xs
 | _ => True
theorem well_inv {P : Params} {h : Heap} {v : Value} {d : WData} (x : Well P h v d) : wInv P h v d := by
 refine @Well.casesOn P h (fun v d _ => wInv P h v d) v d x ?_ ?_ ?_ ?_ ?_ ?_ ?_ ?_ ?_ ?_ ?_ ?_ ?_ <;> intros <;> first | exact trivial | exact ⟨_, rfl⟩ | exact ⟨_, _, rfl, by assumption, by assumption⟩
theorem vall_ints {P : Params} {h : Heap} {ad : Adr} : ∀ {ns : List Int} {vs : List Value}, WellAll P h vs (ns.map .int) → VAll ad h vs (ns.map .int)
 | [], _, x => by cases x; exact .nil
 | n :: ns, _, x => by
  obtain ⟨v, vs, rfl, a, b⟩ := wellAll_cons_inv x
  obtain ⟨t, rfl⟩ := well_inv a
  exact .cons (.int _ _) (vall_ints b)
theorem pre_len {ns : List Int} (h : PySem.Challenge.rw_rr0032_01.row.toRowW.pre.holds PySem.Challenge.rw_rr0032_01.row.toRowW.records { args := [.list (ns.map .int)] } = true) : ns.length ≤ 63 := by
 have hv : WTm.value PySem.Challenge.rw_rr0032_01.row.toRowW.records (.and (.not (.lt (.lit (.int 63)) (.len (.arg 0)))) (.lit (.bool true))) { args := [.list (ns.map .int)] } = some (.bool (!decide ((63 : Int) < ((ns.map WData.int).length : Int)) && true)) := by wtm_val
 have h' := (holdsW_of_value hv).symm.trans h
 rw [List.length_map, Bool.and_true, Bool.not_eq_true', decide_eq_false_iff_not] at h'
 tb_rel
theorem post_ok (xs : List WData) : PySem.Challenge.rw_rr0032_01.row.claim.post [.list xs] (.bool true) [.list xs] = true := by
 show (WShape.has ([] : WRecords) (.bool true) .bool && WTm.holds ([] : WRecords) (.eq .res (.lit (.bool true))) { args := [.list xs], res := some (.bool true), after := [.list xs] }) = true
 have e : WTm.value ([] : WRecords) (.eq .res (.lit (.bool true))) { args := [.list xs], res := some (.bool true), after := [.list xs] } = some (.bool true) := by wtm_val
 rw [holdsW_of_value e]
 rfl
theorem law_holds (plain : ∀ ns : List Int, ns.length ≤ 60 → ∃ fr' σ', d_lawR ([none, some (.loc 3)] ++ List.replicate 11 none) [.cell none, .cell none, .list (ns.map .int), .list [.loc 2, .int 0]] = .ok (.ret (.bool true)) fr' σ') :
 PySem.Challenge.rw_rr0032_01.Holds := by
 have ws : PySem.Challenge.rw_rr0032_01.wellSaid = true := by rw [PySem.W.Fast.te9446332074065402090]; kernel_rfl
 refine holds_law ws fun said => ?_
 refine holds_open (q := qV) (loose := looseV) (Xt := XtV) (XP := fun _ _ => True) (Yf := obsV) (Ya := fun _ => (fWant, true)) (YP := YPv) (N := 8270) head_left ypv_of ypv_keeps (fun _ _ => trivial) (fun _ _ _ _ _ => trivial)
  (by rfl) (by rfl) (by rfl) (fun s e => recFacts_of e) (by rfl) said (by kernel_rfl) ⟨rfl, rfl, rfl, rfl, rfl, by decide +kernel⟩ (by w_witness2) ?_
 intro w s₀ s₁ mg mb G Y a o pm cd doc dV kV ho hd hcd hD hmg hg args vals as hpre hlay hrd hwl hlo
 obtain ⟨K, X, V, hk, sys⟩ := Y
 have T := topRead_of G.T
 have ea : a = 655 := by
  have := (law_g X T hk).symm.trans hmg
  cases this; rfl
 subst ea
 obtain ⟨d, r, rfl, h1, h2⟩ := hasAllW_cons (pre_splitW hpre).1
 obtain rfl := hasAllW_nil h2
 obtain ⟨xs, rfl, h3⟩ := hasW_list h1
 obtain ⟨ns, rfl⟩ := ints_of h3
 have hlen : ns.length ≤ 63 := pre_len (pre_splitW hpre).2
 obtain ⟨v0, vs0, rfl, hw1, hw2⟩ := wellAll_cons_inv hwl
 cases hw2
 obtain ⟨aa, vs, rfl, g, hv⟩ := well_inv hw1
 refine enter_call ?_
 obtain ⟨fr', σ', hp⟩ := plain (ns.take 60) (by rw [List.length_take]; tb_rel)
 have P := pcOf (w := w) (h₀ := s₁.heap) (X := X) (T := T) (sys := sys) (h := hk) V
 refine law_sound (C := mkC w s₁.heap K qV (looseW qV looseV) mg mb X T sys hk) P rfl (a_43 V) (ns := ns) (vs := vs) (a := aa) ⟨by decide, by decide, fun _ => rfl⟩ rfl ⟨rfl, (fun i p o e _ => by simp at e), List.Pairwise.nil, (fun p hp => by cases hp), (fun b o e => e), (fun q hq => by cases hq)⟩ (Nat.le_refl _)
  (by have := (vall_ints (ad := []) hv).length; rw [List.length_map] at this; tb_rel) g (vall_ints hv) hp ?_
 intro u h t ad' x iv
 cases iv
 refine ⟨.inl ⟨.bool true, .bool true, [], rfl, fun _ => rfl, .bool true, post_ok _, fun _ => ⟨List.nodup_nil, fun _ h => by cases h⟩⟩, OldK.of_keep fun b o e => x.keep b o e (by rintro ⟨p, hp, _⟩; cases hp) (by simp), rfl, .of_eq hg⟩
end Mine
end
section
open PySem PySem.W PySem.Calls PyProof.Rows
namespace Mine
section
variable {α : Type} {a b : DS} {d e f e4 : DE} {c q : DB} {l : DL} {fr fr1 fr2 : Frame} {σ σ1 σ2 σ3 σ4 : Store} {i j k n m : Nat} {v w u y : AV} {as : List AV} {sp : Spec} {g g2 : AV → Frame → Store → GRes} {r : Res AV} {R : SRes} {z : Bool}
theorem x_var (h : fr[i]? = some (some v)) : DV i fr σ = .ok v σ := by unfold DV; rw [h]
theorem x_cst : DC v fr σ = .ok v σ := rfl
theorem x_bin {op : Operator} (h1 : d fr σ = .ok v σ1) (h2 : e fr σ1 = .ok w σ2) (h3 : binF op v w σ2 = r) : dBin op d e fr σ = r := by unfold dBin; rw [h1]; show (e fr σ1).bind _ = _; rw [h2]; exact h3
theorem x_cmp {op : CmpOp} (h1 : d fr σ = .ok v σ1) (h2 : e fr σ1 = .ok w σ2) (h3 : cmpF op v w σ2 = r) : dCmp op d e fr σ = r := by unfold dCmp; rw [h1]; show (e fr σ1).bind _ = _; rw [h2]; exact h3
theorem x_neg {t : Int} (h : d fr σ = .ok (.int t) σ1) : dNeg d fr σ = .ok (.int (-t)) σ1 := by unfold dNeg; rw [h]; rfl
theorem x_attr (h1 : d fr σ = .ok v σ1) (h2 : attrF k v σ1 = r) : dAttr k d fr σ = r := by unfold dAttr; rw [h1]; exact h2
theorem x_item (h1 : d fr σ = .ok v σ1) (h2 : e fr σ1 = .ok w σ2) (h3 : itemF v w σ2 = r) : dItem d e fr σ = r := by unfold dItem; rw [h1]; show (e fr σ1).bind _ = _; rw [h2]; exact h3
theorem x_tup (h1 : l fr σ = .ok as σ1) (h2 : as.length ≤ 1000) : dTup l fr σ = .ok (.tup as) σ1 := by unfold dTup; rw [h1]; exact if_pos h2
theorem x_list (h1 : l fr σ = .ok as σ1) (h2 : as.length ≤ 1000) : dList l fr σ = .ok (.loc σ1.length) (σ1 ++ [.list as]) := by unfold dList; rw [h1]; exact if_pos h2
theorem x_slice (h1 : d fr σ = .ok v σ1) (h2 : e fr σ1 = .ok w σ2) (h3 : f fr σ2 = .ok u σ3) (h4 : e4 fr σ3 = .ok y σ4) (h5 : sliceF v w u y σ4 = r) : dSlice d e f e4 fr σ = r := by
 unfold dSlice; rw [h1]; show (e fr σ1).bind _ = _; rw [h2]; show (f fr σ2).bind _ = _; rw [h3]; show (e4 fr σ3).bind _ = _; rw [h4]; exact h5
theorem x_call (h1 : l fr σ = .ok as σ1) (h2 : sp as σ1 = r) : dCall sp l fr σ = r := by unfold dCall; rw [h1]; exact h2
theorem x_fn (h1 : l fr σ = .ok as σ1) (h2 : sp as σ1 = .ok v σ2) : dFn sp l fr σ = .ok v σ2 := by unfold dFn; rw [h1]; show (sp as σ1).calm = _; rw [h2]; rfl
theorem x_meth {fs : List (Nat × AV)} (h1 : d fr σ = .ok (.loc j) σ1) (h2 : σ1[j]? = some (.inst k fs)) (h3 : l fr σ1 = .ok as σ2) (h4 : sp (.loc j :: as) σ2 = .ok v σ3) : dMeth k sp d l fr σ = .ok v σ3 := by
 unfold dMeth; rw [h1]; show (match σ1[j]? with | some (.inst c' _) => if c' = k then (l fr σ1).bind fun as σ => (sp (.loc j :: as) σ).calm else .stuck | _ => .stuck) = _
 rw [h2]; show (if k = k then (l fr σ1).bind fun as σ => (sp (.loc j :: as) σ).calm else .stuck) = _
 rw [if_pos rfl, h3]; show (sp (.loc j :: as) σ2).calm = _; rw [h4]; rfl
theorem x_methB {bk : BK} (h1 : d fr σ = .ok v σ1) (h2 : kindF bk v σ1 = true) (h3 : l fr σ1 = .ok as σ2) (h4 : sp (v :: as) σ2 = r) : dMethB bk sp d l fr σ = r := by
 unfold dMethB; rw [h1]; show (if kindF bk v σ1 = true then (l fr σ1).bind fun as σ => sp (v :: as) σ else .stuck) = _; rw [if_pos h2, h3]; exact h4
theorem x_and (h1 : d fr σ = .ok (.bool z) σ1) (h2 : (if z = true then e fr σ1 else .ok (.bool false) σ1) = r) : dAnd d e fr σ = r := by unfold dAnd; rw [h1]; exact h2
theorem x_or (h1 : d fr σ = .ok (.bool z) σ1) (h2 : (if z = true then .ok (.bool true) σ1 else e fr σ1) = r) : dOr d e fr σ = r := by unfold dOr; rw [h1]; exact h2
theorem x_not (h1 : d fr σ = .ok (.bool z) σ1) : dNot d fr σ = .ok (.bool (!z)) σ1 := by unfold dNot; rw [h1]; rfl
theorem x_dif (h1 : c fr σ = .ok z σ1) (h2 : (if z = true then d fr σ1 else e fr σ1) = r) : dIf c d e fr σ = r := by unfold dIf; rw [h1]; exact h2
theorem x_orB {t : Bool} (h1 : d fr σ = .ok (.bool z) σ) (h2 : e fr σ = .ok (.bool t) σ) : dOr d e fr σ = .ok (.bool (z || t)) σ := by unfold dOr; rw [h1]; cases z; exact h2; rfl
theorem x_andB {t : Bool} (h1 : d fr σ = .ok (.bool z) σ) (h2 : e fr σ = .ok (.bool t) σ) : dAnd d e fr σ = .ok (.bool (z && t)) σ := by unfold dAnd; rw [h1]; cases z; rfl; exact h2
theorem x_borB {t : Bool} (h1 : c fr σ = .ok z σ) (h2 : q fr σ = .ok t σ) : bOr c q fr σ = .ok (z || t) σ := by unfold bOr; rw [h1]; cases z; exact h2; rfl
theorem x_bandB {t : Bool} (h1 : c fr σ = .ok z σ) (h2 : q fr σ = .ok t σ) : bAnd c q fr σ = .ok (z && t) σ := by unfold bAnd; rw [h1]; cases z; rfl; exact h2
theorem x_bval (h1 : d fr σ = .ok (.bool z) σ1) : bVal d fr σ = .ok z σ1 := by unfold bVal; rw [h1]; rfl
theorem x_band {t : Res Bool} (h1 : c fr σ = .ok z σ1) (h2 : (if z = true then q fr σ1 else .ok false σ1) = t) : bAnd c q fr σ = t := by unfold bAnd; rw [h1]; exact h2
theorem x_bor {t : Res Bool} (h1 : c fr σ = .ok z σ1) (h2 : (if z = true then .ok true σ1 else q fr σ1) = t) : bOr c q fr σ = t := by unfold bOr; rw [h1]; exact h2
theorem x_con {t : Bool} : ((fun _ σ => Res.ok t σ) : DB) fr σ = .ok t σ := rfl
theorem x_nil : LN fr σ = .ok [] σ := rfl
theorem x_lcst : lCst as fr σ = .ok as σ := rfl
theorem x_cons (h1 : d fr σ = .ok v σ1) (h2 : l fr σ1 = .ok as σ2) : LC d l fr σ = .ok (v :: as) σ2 := by unfold LC; rw [h1]; show (l fr σ1).bind _ = _; rw [h2]; rfl
theorem x_seq {r1 : SRes} (h1 : a fr σ = r1) (h2 : r1.andThen b = R) : SQ a b fr σ = R := by unfold SQ; rw [h1]; exact h2
theorem x_next (h : b fr σ = R) : (SRes.ok .next fr σ).andThen b = R := h
theorem x_andret : (SRes.ok (.ret v) fr σ).andThen b = .ok (.ret v) fr σ := rfl
theorem x_andcont : (SRes.ok .cont fr σ).andThen b = .ok .cont fr σ := rfl
theorem x_andexc : (SRes.exc v fr σ).andThen b = .exc v fr σ := rfl
theorem x_snil : SN fr σ = .ok .next fr σ := rfl
theorem x_snil' (h : fr = fr1) : SN fr σ = .ok .next fr1 σ := by rw [← h]; rfl
theorem x_scont' (h : fr = fr1) : sCont fr σ = .ok .cont fr1 σ := by rw [← h]; rfl
theorem x_scont : sCont fr σ = .ok .cont fr σ := rfl
theorem x_assign (h : d fr σ = .ok v σ1) : QA i d fr σ = .ok .next (fr.set i (some v)) σ1 := by unfold QA; rw [h]; rfl
theorem x_expr (h : d fr σ = .ok v σ1) : sExpr d fr σ = .ok .next fr σ1 := by unfold sExpr; rw [h]; rfl
theorem x_ret (h : d fr σ = .ok v σ1) : sRet d fr σ = .ok (.ret v) fr σ1 := by unfold sRet; rw [h]; rfl
theorem x_sif (h1 : c fr σ = .ok z σ1) (h2 : (if z = true then a fr σ1 else b fr σ1) = R) : sIf c a b fr σ = R := by unfold sIf; rw [h1]; exact h2
theorem if_t {β : Sort _} {A B C : β} (h : z = true) (k : A = C) : (if z = true then A else B) = C := by rw [if_pos h]; exact k
theorem if_f {β : Sort _} {A B C : β} (h : z = false) (k : B = C) : (if z = true then A else B) = C := by rw [if_neg (by rw [h]; decide)]; exact k
theorem x_setattr (h1 : d fr σ = .ok v σ1) (h2 : e fr σ1 = .ok w σ2) (h3 : setAttrF k w v fr σ2 = some (fr1, σ3)) : sSetAttr k d e fr σ = .ok .next fr1 σ3 := by
 unfold sSetAttr; rw [h1]; show (e fr σ1).then_ fr _ = _; rw [h2]; show (setAttrF k w v fr σ2).on = _; rw [h3]; rfl
theorem x_setitem (h1 : d fr σ = .ok v σ1) (h2 : e fr σ1 = .ok w σ2) (h3 : f fr σ2 = .ok u σ3) (h4 : setItemF w u v fr σ3 = some (fr1, σ4)) : sSetItem d e f fr σ = .ok .next fr1 σ4 := by
 unfold sSetItem; rw [h1]; show (e fr σ1).then_ fr _ = _; rw [h2]; show (f fr σ2).then_ fr _ = _; rw [h3]; show (setItemF w u v fr σ3).on = _; rw [h4]; rfl
theorem x_aug {s t : Int} (h1 : fr[i]? = some (some (.int s))) (h2 : d fr σ = .ok (.int t) σ1) : sAug i d fr σ = .ok .next (fr.set i (some (.int (s + t)))) σ1 := by
 unfold sAug; rw [x_var h1]; show (d fr σ).then_ fr _ = _; rw [h2]; rfl
theorem x_augI {s t : Int} {σ5 : Store} (h1 : d fr σ = .ok (.loc j) σ1) (h2 : e fr σ1 = .ok w σ2) (h3 : itemF (.loc j) w σ2 = .ok (.int s) σ3) (h4 : f fr σ3 = .ok (.int t) σ4) (h5 : setItemF (.loc j) w (.int (s + t)) fr σ4 = some (fr1, σ5)) : sAugItem' d e f fr σ = .ok .next fr1 σ5 := by
 unfold sAugItem'; rw [h1]; show (e fr σ1).then_ fr _ = _; rw [h2]; show (itemF (.loc j) w σ2).then_ fr _ = _; rw [h3]; show (f fr σ3).then_ fr _ = _; rw [h4]; show (setItemF (.loc j) w (.int (s + t)) fr σ4).on = _; rw [h5]; rfl
theorem x_stup (h1 : d fr σ = .ok v σ1) (h2 : g v fr σ1 = some (fr1, σ2)) : sTup d g fr σ = .ok .next fr1 σ2 := by unfold sTup; rw [h1]; show (g v fr σ1).on = _; rw [h2]; rfl
theorem x_sdel (h1 : d fr σ = .ok v σ1) (h2 : e fr σ1 = .ok w σ2) (h3 : delF v w fr σ2 = R) : sDelFrom d e fr σ = R := by unfold sDelFrom; rw [h1]; show (e fr σ1).then_ fr _ = _; rw [h2]; exact h3
theorem x_for (h1 : d fr σ = .ok v σ1) (h2 : sIter g a v fr σ1 = R) : sFor d g a fr σ = R := by unfold sFor; rw [h1]; exact h2
theorem x_forT (h1 : d fr σ = .ok v σ1) (h2 : sIterL g a v fr σ1 = R) : sForT d g a fr σ = R := by unfold sForT; rw [h1]; exact h2
theorem x_forR {s t : Int} (h1 : l fr σ = .ok as σ1) (h2 : rangeOf as = some (s, t, n)) (h3 : sForL (fun _ => true) g a (itemsR s t n) fr σ1 = R) : sForR l g a fr σ = R := by
 unfold sForR; rw [h1]; show (match rangeOf as with | some (x, c, n) => sForL (fun _ => true) g a (itemsR x c n) fr σ1 | none => .stuck) = _; rw [h2]; exact h3
theorem x_func {dfl avs : List AV} {b : DS} (h1 : avs.length = m) (h2 : b ((avs ++ dfl).map some ++ List.replicate n none) σ = .ok (.ret v) fr1 σ1) : fnSpec m dfl n b avs σ = .ok v σ1 := by unfold fnSpec; rw [if_pos h1, h2]; rfl
theorem x_funcN {dfl avs : List AV} {b : DS} (h1 : avs.length = m) (h2 : b ((avs ++ dfl).map some ++ List.replicate n none) σ = .ok .next fr1 σ1) : fnSpec m dfl n b avs σ = .ok .none σ1 := by unfold fnSpec; rw [if_pos h1, h2]; rfl
theorem x_add {s t : Int} : binF .Add (.int s) (.int t) σ = .ok (.int (s + t)) σ := rfl
theorem x_sub {s t : Int} : binF .Sub (.int s) (.int t) σ = .ok (.int (s - t)) σ := rfl
theorem c_eq {s t : Int} : cmpF .Eq (.int s) (.int t) σ = .ok (.bool (decide (s = t))) σ := rfl
theorem c_ne {s t : Int} : cmpF .NotEq (.int s) (.int t) σ = .ok (.bool (!decide (s = t))) σ := rfl
theorem c_lt {s t : Int} : cmpF .Lt (.int s) (.int t) σ = .ok (.bool (decide (s < t))) σ := rfl
theorem c_le {s t : Int} : cmpF .LtE (.int s) (.int t) σ = .ok (.bool (decide (s ≤ t))) σ := rfl
theorem c_gt {s t : Int} : cmpF .Gt (.int s) (.int t) σ = .ok (.bool (decide (t < s))) σ := rfl
theorem c_ge {s t : Int} : cmpF .GtE (.int s) (.int t) σ = .ok (.bool (decide (t ≤ s))) σ := rfl
theorem c_seq {s t : List Nat} : cmpF .Eq (.str s) (.str t) σ = .ok (.bool (decide (s = t))) σ := rfl
theorem c_sne {s t : List Nat} : cmpF .NotEq (.str s) (.str t) σ = .ok (.bool (!decide (s = t))) σ := rfl
theorem c_is : cmpF .Is v .none σ = .ok (.bool (isNone v)) σ := by cases v <;> rfl
theorem c_isnot : cmpF .IsNot v .none σ = .ok (.bool (!isNone v)) σ := by cases v <;> rfl
theorem x_dictS : dDictS fr σ = .ok (.loc σ.length) (σ ++ [.dictS []]) := rfl
theorem x_dictI : dDictI fr σ = .ok (.loc σ.length) (σ ++ [.dictI []]) := rfl
theorem x_dictP : dDictP fr σ = .ok (.loc σ.length) (σ ++ [.dictP []]) := rfl
end
theorem getL_0 {α : Type} {a : α} {l : List α} : (a :: l)[0]? = some a := rfl
theorem getL_s {α : Type} {a : α} {l : List α} {n : Nat} : (a :: l)[n + 1]? = l[n]? := rfl
theorem setL_0 {α : Type} {a b : α} {l : List α} : (a :: l).set 0 b = b :: l := rfl
theorem setL_s {α : Type} {a b : α} {l : List α} {n : Nat} : (a :: l).set (n + 1) b = a :: l.set n b := rfl
theorem itemF_list {σ : Store} {n : Nat} {i : Int} {xs : List AV} {v : AV} (h : σ[n]? = some (.list xs)) (h0 : 0 ≤ i) (hv : xs[i.toNat]? = some v) (hl : xs.length ≤ 16777216) : itemF (.loc n) (.int i) σ = .ok v σ := by
 conv => lhs; whnf
 rw [h]; refine (if_pos h0).trans ?_; rw [hv]; exact if_pos hl
theorem itemF_dictI {σ : Store} {n : Nat} {i : Int} {es : List (Int × AV)} {e : Int × AV} (h : σ[n]? = some (.dictI es)) (hv : (es.find? fun e => decide (e.1 = i)) = some e) : itemF (.loc n) (.int i) σ = .ok e.2 σ := by
 conv => lhs; whnf
 rw [h]; conv => lhs; whnf
 rw [hv]
theorem itemF_tup {σ : Store} {i : Int} {xs : List AV} {v : AV} (h0 : 0 ≤ i) (h1 : i < 1152921504606846976) (hv : xs[i.toNat]? = some v) : itemF (.tup xs) (.int i) σ = .ok v σ := by
 refine (if_pos ⟨h0, h1⟩).trans ?_; rw [hv]
theorem itemF_str {σ : Store} {i : Int} {xs : List Nat} {c : Nat} (h0 : 0 ≤ i) (h1 : i < 1152921504606846976) (hv : xs[i.toNat]? = some c) : itemF (.str xs) (.int i) σ = .ok (.str [c]) σ := by
 refine (if_pos ⟨h0, h1⟩).trans ?_; rw [hv]
theorem setItem_list {fr : Frame} {σ : Store} {n : Nat} {i : Int} {xs : List AV} {v : AV} (h : σ[n]? = some (.list xs)) (h0 : 0 ≤ i) (h1 : i < xs.length) (hl : xs.length ≤ 16777216) : setItemF (.loc n) (.int i) v fr σ = some (fr, σ.set n (.list (xs.set i.toNat v))) := by
 conv => lhs; whnf
 rw [h]; exact if_pos ⟨h0, h1, hl⟩
theorem setItem_dictS {fr : Frame} {σ : Store} {n : Nat} {k : List Nat} {es : List (List Nat × AV)} {v : AV} (h : σ[n]? = some (.dictS es)) (hl : es.length ≤ 16777216) : setItemF (.loc n) (.str k) v fr σ = some (fr, σ.set n (.dictS (setAt k v es))) := by
 conv => lhs; whnf
 rw [h]; exact if_pos hl
theorem setItem_dictI {fr : Frame} {σ : Store} {n : Nat} {k : Int} {es : List (Int × AV)} {v : AV} (h : σ[n]? = some (.dictI es)) (hl : es.length ≤ 16777216) : setItemF (.loc n) (.int k) v fr σ = some (fr, σ.set n (.dictI (setAt k v es))) := by
 conv => lhs; whnf
 rw [h]; exact if_pos hl
theorem setItem_dictP {fr : Frame} {σ : Store} {n : Nat} {k l : Int} {es : List ((Int × Int) × AV)} {v : AV} (h : σ[n]? = some (.dictP es)) (hl : es.length ≤ 16777216) : setItemF (.loc n) (.tup [.int k, .int l]) v fr σ = some (fr, σ.set n (.dictP (setAt (k, l) v es))) := by
 conv => lhs; whnf
 rw [h]; exact if_pos hl
theorem append_list {σ : Store} {n : Nat} {xs : List AV} {v : AV} (h : σ[n]? = some (.list xs)) (hl : xs.length ≤ 1000) : spAppend [.loc n, v] σ = .ok .none (σ.set n (.list (xs ++ [v]))) := by
 conv => lhs; whnf
 rw [h]; exact if_pos hl
theorem len_list {σ : Store} {n : Nat} {xs : List AV} (h : σ[n]? = some (.list xs)) (hl : xs.length ≤ 16777216) : spLen [.loc n] σ = .ok (.int xs.length) σ := by
 conv => lhs; whnf
 rw [h]; exact if_pos hl
theorem len_str {σ : Store} {xs : List Nat} (hl : xs.length ≤ 16777216) : spLen [.str xs] σ = .ok (.int xs.length) σ := by
 exact if_pos hl
theorem len_tup {σ : Store} {xs : List AV} (hl : xs.length ≤ 16777216) : spLen [.tup xs] σ = .ok (.int xs.length) σ := by
 exact if_pos hl
theorem attr_ok {σ : Store} {k n c : Nat} {fs : List (Nat × AV)} {v : AV} (h : σ[n]? = some (.inst c fs)) (hc : c ≠ 1) (hv : fs.lookup k = some v) : attrF k (.loc n) σ = .ok v σ := by
 conv => lhs; whnf
 rw [h]; refine (if_neg hc).trans ?_; rw [hv]
theorem kind_list {σ : Store} {n : Nat} {xs : List AV} (h : σ[n]? = some (.list xs)) : kindF .list (.loc n) σ = true := by
 conv => lhs; whnf
 rw [h]
theorem kind_dictS {σ : Store} {n : Nat} {xs : List (List Nat × AV)} (h : σ[n]? = some (.dictS xs)) : kindF .dict (.loc n) σ = true := by
 conv => lhs; whnf
 rw [h]
theorem kind_dictP {σ : Store} {n : Nat} {xs : List ((Int × Int) × AV)} (h : σ[n]? = some (.dictP xs)) : kindF .dict (.loc n) σ = true := by
 conv => lhs; whnf
 rw [h]
theorem forL_rule {chk : Store → Bool} {g : AV → Frame → Store → GRes} {body : DS} (Inv : Nat → Frame → Store → Prop) : ∀ (xs : List AV) (j : Nat) {fr : Frame} {σ : Store}, Inv j fr σ →
 (∀ k x fr σ, xs[k]? = some x → Inv (j + k) fr σ → ∃ p, g x fr σ = some p ∧ ∃ fr' σ', (body p.1 p.2 = .ok .next fr' σ' ∨ body p.1 p.2 = .ok .cont fr' σ') ∧ chk σ' = true ∧ Inv (j + k + 1) fr' σ') →
 ∃ fr' σ', sForL chk g body xs fr σ = .ok .next fr' σ' ∧ Inv (j + xs.length) fr' σ'
 | [], j, fr, σ, h0, _ => ⟨fr, σ, rfl, h0⟩
 | x :: xs, j, fr, σ, h0, st => by
  obtain ⟨p, hg, fr', σ', hb, hc, hi⟩ := st 0 x fr σ rfl h0
  obtain ⟨fr2, σ2, h1, h2⟩ := forL_rule Inv xs (j + 1) hi fun k y fr σ hk hi => by
   have := st (k + 1) y fr σ hk (by rw [show j + (k + 1) = j + 1 + k by tb_rel]; exact hi)
   rw [show j + (k + 1) + 1 = j + 1 + k + 1 by tb_rel] at this
   exact this
  refine ⟨fr2, σ2, ?_, by rw [List.length_cons, show j + (xs.length + 1) = j + 1 + xs.length by tb_rel]; exact h2⟩
  unfold sForL
  rw [hg]
  rcases hb with hb | hb
  · simp only [hb, hc, if_true]; exact h1
  · simp only [hb, hc, if_true]; exact h1
structure Keep (t : List Nat) (σ σ' : Store) : Prop where
 len : σ.length ≤ σ'.length
 at_ : ∀ (i : Nat) o, i ∉ t → σ[i]? = some o → σ'[i]? = some o
theorem Keep.refl {t : List Nat} {σ : Store} : Keep t σ σ := ⟨Nat.le_refl _, fun _ _ _ e => e⟩
theorem Keep.trans {t : List Nat} {σ σ₁ σ₂ : Store} (x : Keep t σ σ₁) (y : Keep t σ₁ σ₂) : Keep t σ σ₂ := ⟨Nat.le_trans x.len y.len, fun i o h e => y.at_ i o h (x.at_ i o h e)⟩
theorem Keep.mono {t u : List Nat} {σ σ' : Store} (x : Keep t σ σ') (h : ∀ i ∈ t, i ∈ u) : Keep u σ σ' := ⟨x.len, fun i o hi e => x.at_ i o (fun q => hi (h i q)) e⟩
theorem Keep.add {t : List Nat} {σ l : Store} : Keep t σ (σ ++ l) := ⟨by simp, fun i o _ e => by rw [List.getElem?_append_left (List.getElem?_eq_some_iff.mp e).1]; exact e⟩
theorem Keep.set {t : List Nat} {σ : Store} {j : Nat} {o : AO} (h : j ∈ t) : Keep t σ (σ.set j o) := ⟨by simp, fun i o' hi e => by
 rw [List.getElem?_set, if_neg (fun q : j = i => hi (by rw [← q]; exact h))]; exact e⟩
theorem Keep.new {t u : List Nat} {σ σ₁ σ₂ : Store} (x : Keep t σ σ₁) (y : Keep u σ₁ σ₂) (h : ∀ j ∈ u, j ∈ t ∨ σ.length ≤ j) : Keep t σ σ₂ := ⟨Nat.le_trans x.len y.len, fun i o hi e => y.at_ i o (fun q => by
 rcases h i q with q | q
 · exact hi q
 · exact absurd (List.getElem?_eq_some_iff.mp e).1 (by tb_rel)) (x.at_ i o hi e)⟩
theorem nin0 {i : Nat} : i ∉ ([] : List Nat) := fun h => nomatch h
theorem nin6 {i : Nat} (h : 9 ≤ i) : i ∉ [5, 6] := by simp; tb_rel
theorem nin7 {i : Nat} (h : 9 ≤ i) : i ∉ [7, 8] := by simp; tb_rel
theorem nin8 {i : Nat} (h : 9 ≤ i) : i ∉ [5, 6, 7, 8] := by simp; tb_rel
theorem ninT {i j : Nat} (h : i ≠ j) : i ∉ [j] := by simpa using h
theorem nin1 {i : Nat} : i ∉ [i + 1] := by simp
theorem all0 {p : Nat → Prop} : ∀ i ∈ ([] : List Nat), p i := fun _ h => nomatch h
theorem all1 {a : Nat} {p : Nat → Prop} (h : p a) : ∀ i ∈ [a], p i := fun i hi => by rw [List.mem_singleton.mp hi]; exact h
structure Salt (ns : List Int) (k : Int) (σ : Store) : Prop where
 two : σ[2]? = some (.list (ns.map .int))
 three : σ[3]? = some (.list [.loc 2, .int k])
 pos : 0 ≤ k
 short : ns.length ≤ 1000
theorem Salt.keep {ns : List Int} {k : Int} {σ σ' : Store} {t : List Nat} (x : Salt ns k σ) (y : Keep t σ σ') (h2 : 2 ∉ t) (h3 : 3 ∉ t) : Salt ns k σ' := ⟨y.at_ _ _ h2 x.two, y.at_ _ _ h3 x.three, x.pos, x.short⟩
theorem pinch_ok {ns : List Int} {k m : Int} {σ : Store} (S : Salt ns k σ) (hm : 0 < m) : ∃ r σ', sp_law_pinch [.loc 3, .int m] σ = .ok (.int r) σ' ∧ 0 ≤ r ∧ r < m ∧ Salt ns (k + 1) σ' ∧ Keep [3] σ σ' ∧ σ'.length = σ.length := by
 obtain ⟨h2, h3, hk, hs⟩ := S
 have hK : Keep [3] σ (σ.set 3 (.list [.loc 2, .int (k + 1)])) := Keep.set (by simp)
 have l3 : 3 < σ.length := (List.getElem?_eq_some_iff.mp h3).1
 have g3 : (σ.set 3 (.list [.loc 2, .int (k + 1)]))[3]? = some (.list [.loc 2, .int (k + 1)]) := by rw [List.getElem?_set_self l3]
 have g2 := hK.at_ 2 _ (by simp) h2
 have S' : Salt ns (k + 1) (σ.set 3 (.list [.loc 2, .int (k + 1)])) := ⟨g2, g3, by tb_rel, hs⟩
 have a1 : itemF (.loc 3) (.int 1) σ = .ok (.int k) σ := itemF_list h3 (by tb_rel) rfl (by simp)
 have a2 : ∀ fr, setItemF (.loc 3) (.int 1) (.int (k + 1)) fr σ = some (fr, σ.set 3 (.list [.loc 2, .int (k + 1)])) := fun fr => setItem_list h3 (by tb_rel) (by simp) (by simp)
 have a3 : itemF (.loc 3) (.int 1) (σ.set 3 (.list [.loc 2, .int (k + 1)])) = .ok (.int (k + 1)) _ := itemF_list g3 (by tb_rel) rfl (by simp)
 have a4 : itemF (.loc 3) (.int 0) (σ.set 3 (.list [.loc 2, .int (k + 1)])) = .ok (.loc 2) _ := itemF_list g3 (by tb_rel) rfl (by simp)
 have a5 := len_list g2 (by rw [List.length_map]; tb_rel)
 rw [List.length_map] at a5
 by_cases hc : (ns.length : Int) < k + 1
 · refine ⟨0, _, x_func rfl (x_seq (x_augI (x_var rfl) x_cst a1 x_cst (a2 _)) (x_next (by (repeat' first | (with_reducible first | exact x_cst | exact x_nil | exact x_snil | exact x_andret | exact x_sub | exact c_gt | refine' x_next ?_ | refine' x_seq ?_ ?_ | refine' x_ret ?_ | refine' x_sif ?_ ?_ | refine' x_bval ?_ | refine' x_bin ?_ ?_ ?_ | refine' x_cmp ?_ ?_ ?_ | refine' x_item ?_ ?_ ?_ | refine' x_call ?_ ?_ | refine' x_cons ?_ ?_) | ((with_reducible refine' x_var ?h); case h => exact rfl) | ((with_reducible refine' if_t ?h ?_); case h => top_raise) | ((with_reducible refine' if_f ?h ?_); case h => top_raise) | ((with_reducible show _ = _); with_reducible assumption) | ((with_reducible show Res.ok _ _ = _); exact rfl) | ((with_reducible show SRes.ok _ _ _ = _); exact rfl))))), by tb_rel, by tb_rel, S', hK, by simp⟩
 · have hj : k.toNat < ns.length := by tb_rel
   have a6 : itemF (.loc 2) (.int (k + 1 - 1)) (σ.set 3 (.list [.loc 2, .int (k + 1)])) = .ok (.int ns[k.toNat]) _ := itemF_list g2 (by tb_rel) (by
    rw [List.getElem?_map, show (k + 1 - 1).toNat = k.toNat by tb_rel, List.getElem?_eq_getElem hj]; rfl) (by rw [List.length_map]; tb_rel)
   have a7 : ∀ x : Int, binF .Mod (.int x) (.int m) (σ.set 3 (.list [.loc 2, .int (k + 1)])) = .ok (.int (Int.fmod x m)) _ := fun x => if_pos (by tb_rel)
   have a8 : ∀ (x : Int) σ, spAbs [.int x] σ = .ok (.int (if x < 0 then -x else x)) σ := fun _ _ => rfl
   refine ⟨Int.fmod (if ns[k.toNat] < 0 then -ns[k.toNat] else ns[k.toNat]) m, _, x_func rfl (x_seq (x_augI (x_var rfl) x_cst a1 x_cst (a2 _)) (x_next (by (repeat' first | with_reducible exact a8 _ _ | with_reducible exact a7 _ | (with_reducible first | exact x_cst | exact x_nil | exact x_snil | exact x_andret | exact x_sub | exact c_gt | refine' x_next ?_ | refine' x_seq ?_ ?_ | refine' x_ret ?_ | refine' x_sif ?_ ?_ | refine' x_bval ?_ | refine' x_bin ?_ ?_ ?_ | refine' x_cmp ?_ ?_ ?_ | refine' x_item ?_ ?_ ?_ | refine' x_call ?_ ?_ | refine' x_cons ?_ ?_) | ((with_reducible refine' x_var ?h); case h => exact rfl) | ((with_reducible refine' if_t ?h ?_); case h => top_raise) | ((with_reducible refine' if_f ?h ?_); case h => top_raise) | ((with_reducible show _ = _); with_reducible assumption) | ((with_reducible show Res.ok _ _ = _); exact rfl) | ((with_reducible show SRes.ok _ _ _ = _); exact rfl))))), Int.fmod_nonneg_of_pos _ hm, Int.fmod_lt_of_pos _ hm, S', hK, by simp⟩
end Mine
end
local macro_rules | `(tactic| kts_caught) => `(tactic| first | decide | exact Mine.nin0 | exact Mine.all0 | exact Mine.nin6 (by assumption) | exact Mine.nin8 (by assumption) | exact List.mem_singleton_self _ | (simp; done) | (simp; tb_rel))
section
open PySem PySem.W PySem.Calls PyProof.Rows
namespace Mine
theorem any_ok {ns : List Int} {k : Int} {σ : Store} (S : Salt ns k σ) : ∃ r σ' k', sp_law_any [.loc 3] σ = .ok (.int r) σ' ∧ -1 ≤ r ∧ r < 5 ∧ Salt ns k' σ' ∧ Keep [3] σ σ' := by
 obtain ⟨r, σ', e, h0, h1, S', hK, _⟩ := pinch_ok S (m := 9) (by decide)
 by_cases hc : r < 4
 · exact ⟨-1, σ', _, x_func rfl (by unfold d_law_any; (repeat' first | (with_reducible first | exact x_cst | exact x_nil | exact x_andret | exact x_sub | exact c_lt | refine' x_next ?_ | refine' x_seq ?_ ?_ | refine' x_assign ?_ | refine' x_ret ?_ | refine' x_bval ?_ | refine' x_bin ?_ ?_ ?_ | refine' x_cmp ?_ ?_ ?_ | refine' x_fn ?_ ?_ | refine' x_dif ?_ ?_ | refine' x_cons ?_ ?_) | ((with_reducible refine' x_var ?h); case h => exact rfl) | ((with_reducible refine' if_t ?h ?_); case h => top_raise) | ((with_reducible refine' if_f ?h ?_); case h => top_raise) | ((with_reducible show _ = _); with_reducible assumption) | ((with_reducible show Res.ok _ _ = _); exact rfl) | ((with_reducible show SRes.ok _ _ _ = _); exact rfl))), by tb_rel, by tb_rel, S', hK⟩
 · exact ⟨r - 4, σ', _, x_func rfl (by unfold d_law_any; (repeat' first | (with_reducible first | exact x_cst | exact x_nil | exact x_andret | exact x_sub | exact c_lt | refine' x_next ?_ | refine' x_seq ?_ ?_ | refine' x_assign ?_ | refine' x_ret ?_ | refine' x_bval ?_ | refine' x_bin ?_ ?_ ?_ | refine' x_cmp ?_ ?_ ?_ | refine' x_fn ?_ ?_ | refine' x_dif ?_ ?_ | refine' x_cons ?_ ?_) | ((with_reducible refine' x_var ?h); case h => exact rfl) | ((with_reducible refine' if_t ?h ?_); case h => top_raise) | ((with_reducible refine' if_f ?h ?_); case h => top_raise) | ((with_reducible show _ = _); with_reducible assumption) | ((with_reducible show Res.ok _ _ = _); exact rfl) | ((with_reducible show SRes.ok _ _ _ = _); exact rfl))), by tb_rel, by tb_rel, S', hK⟩
noncomputable def alpha : List Nat := [97, 98, 90, 97, 65, 49, 95, 233]
noncomputable def Txt7 (cs : List Nat) : Prop := ∀ c ∈ cs, c ∈ alpha
theorem itemsR_len {a c : Int} {n : Nat} : (itemsR a c n).length = n := by simp [itemsR]
theorem itemsR_get {a c : Int} {n k : Nat} {x : AV} (h : (itemsR a c n)[k]? = some x) : k < n ∧ x = .int (a + (k : Int) * c) := by
 unfold itemsR at h
 rw [List.getElem?_map] at h
 obtain ⟨i, h1, h2⟩ := Option.map_eq_some_iff.mp h
 obtain ⟨q, h3⟩ := List.getElem?_eq_some_iff.mp h1
 rw [List.getElem_range] at h3
 subst h3
 exact ⟨by simpa using q, h2.symm⟩
theorem text_ok {ns : List Int} {k m : Int} {σ : Store} (S : Salt ns k σ) (hm : 0 < m) (hm' : m < 100) : ∃ cs σ' k', sp_law_text [.loc 3, .int m] σ = .ok (.str cs) σ' ∧ (cs.length : Int) < m ∧ Txt7 cs ∧ Salt ns k' σ' ∧ Keep [3] σ σ' := by
 obtain ⟨r, σ₁, e, h0, h1, S1, hK, _⟩ := pinch_ok S hm
 obtain ⟨fr', σ', hf, x, cs, hfr, hl, ht, k', S', hK'⟩ := forL_rule (chk := fun _ => true) (g := gName 3)
  (body := SQ (QA 2 (dBin .Add (DV 2) (dItem (DC (.str [97, 98, 90, 97, 65, 49, 95, 233])) (dFn sp_law_pinch (LC (DV 0) (LC (DC (.int 8)) LN)))))) SN)
  (fun j fr σ' => ∃ x cs, fr = [some (.loc 3), some (.int m), some (.str cs), x] ∧ cs.length = j ∧ Txt7 cs ∧ ∃ k', Salt ns k' σ' ∧ Keep [3] σ σ')
  (itemsR 0 1 r.toNat) 0 (fr := [some (.loc 3), some (.int m), some (.str []), none]) (σ := σ₁) ⟨none, [], rfl, rfl, (fun _ h => by cases h), _, S1, hK⟩ (by
   rintro j y fr σ2 hj ⟨x, cs, rfl, hl, ht, k', S2, hK2⟩
   obtain ⟨hj, rfl⟩ := itemsR_get hj
   obtain ⟨r2, σ3, e3, g0, g1, S3, hK3, _⟩ := pinch_ok S2 (m := 8) (by decide)
   have hr : r2.toNat < alpha.length := by show r2.toNat < 8; tb_rel
   refine ⟨_, rfl, [some (.loc 3), some (.int m), some (.str (cs ++ [alpha[r2.toNat]])), some (.int (0 + (j : Int) * 1))], σ3, .inl ?_, rfl, _, _, rfl, by simp; tb_rel, ?_, _, S3, hK2.trans hK3⟩
   · have a1 : itemF (.str [97, 98, 90, 97, 65, 49, 95, 233]) (.int r2) σ3 = .ok (.str [alpha[r2.toNat]]) σ3 := itemF_str g0 (by tb_rel) (List.getElem?_eq_getElem hr)
     have a2 : binF .Add (.str cs) (.str [alpha[r2.toNat]]) σ3 = .ok (.str (cs ++ [alpha[r2.toNat]])) σ3 := if_pos (by kts_caught)
     (repeat' first | (with_reducible first | exact x_cst | exact x_nil | exact x_andret | refine' x_next ?_ | refine' x_seq ?_ ?_ | refine' x_assign ?_ | refine' x_ret ?_ | refine' x_bin ?_ ?_ ?_ | refine' x_item ?_ ?_ ?_ | refine' x_fn ?_ ?_ | refine' x_cons ?_ ?_) | ((with_reducible refine' x_var ?h); case h => exact rfl) | ((with_reducible refine' x_snil' ?h); case h => exact rfl) | ((with_reducible show _ = _); with_reducible assumption) | ((with_reducible show Res.ok _ _ = _); exact rfl) | ((with_reducible show SRes.ok _ _ _ = _); exact rfl))
   · intro c hc
     rcases List.mem_append.mp hc with hc | hc
     · exact ht c hc
     · rw [List.mem_singleton.mp hc]; exact List.getElem_mem hr)
 rw [itemsR_len] at hl
 subst hfr
 have hr : rangeOf [.int r] = some (0, 1, r.toNat) := if_pos (by unfold small; simp; tb_rel)
 exact ⟨cs, σ', k', x_func rfl (x_seq (x_assign x_cst) (x_next (x_seq (x_forR (x_cons (x_fn (x_cons (x_var rfl) (x_cons (x_var rfl) x_nil)) e) x_nil) hr hf) (x_next (by (repeat' first | (with_reducible first | exact x_cst | exact x_nil | exact x_andret | refine' x_next ?_ | refine' x_seq ?_ ?_ | refine' x_assign ?_ | refine' x_ret ?_ | refine' x_bin ?_ ?_ ?_ | refine' x_item ?_ ?_ ?_ | refine' x_fn ?_ ?_ | refine' x_cons ?_ ?_) | ((with_reducible refine' x_var ?h); case h => exact rfl) | ((with_reducible refine' x_snil' ?h); case h => exact rfl) | ((with_reducible show _ = _); with_reducible assumption) | ((with_reducible show Res.ok _ _ = _); exact rfl) | ((with_reducible show SRes.ok _ _ _ = _); exact rfl))))))), by tb_rel, ht, S', hK'⟩
end Mine
end
section
open PySem PySem.W PySem.Calls PyProof.Rows
namespace Mine
theorem getL_new {σ : Store} {o : AO} : (σ ++ [o])[σ.length]? = some o := by simp
theorem setL_new {σ : Store} {o o' : AO} : (σ ++ [o]).set σ.length o' = σ ++ [o'] := by simp
noncomputable def pr (i j : Int) : AV := .tup [.int i, .int j]
noncomputable def partsIn (L b s a st : Int) : Nat → List AV
 | 0 => []
 | k + 1 => partsIn L b s a st k ++ (if (b = -1 ∨ b = st) ∧ (s = -1 ∨ s = (k : Int)) ∧ (a = -1 ∨ a = L - (st + k)) then [pr st k] else [])
noncomputable def partsL (L b s a : Int) : Nat → List AV
 | 0 => []
 | k + 1 => partsL L b s a k ++ partsIn L b s a k (L + 1 - k).toNat
theorem partsIn_succ {L b s a st : Int} {k : Nat} : partsIn L b s a st (k + 1) = partsIn L b s a st k ++ (if (b = -1 ∨ b = st) ∧ (s = -1 ∨ s = (k : Int)) ∧ (a = -1 ∨ a = L - (st + k)) then [pr st k] else []) := rfl
theorem partsL_succ {L b s a : Int} {k : Nat} : partsL L b s a (k + 1) = partsL L b s a k ++ partsIn L b s a k (L + 1 - k).toNat := rfl
theorem partsIn_len {L b s a st : Int} : ∀ n, (partsIn L b s a st n).length ≤ n
 | 0 => Nat.le_refl _
 | n + 1 => by
  have := partsIn_len (L := L) (b := b) (s := s) (a := a) (st := st) n
  unfold partsIn; rw [List.length_append]; split <;> simp <;> tb_rel
theorem partsL_len {L b s a : Int} (hL : L ≤ 9) : ∀ n, (partsL L b s a n).length ≤ 10 * n
 | 0 => Nat.le_refl _
 | n + 1 => by
  have h1 := partsL_len (L := L) (b := b) (s := s) (a := a) hL n
  have h2 := partsIn_len (L := L) (b := b) (s := s) (a := a) (st := n) (L + 1 - n).toNat
  unfold partsL; rw [List.length_append]; tb_rel
theorem parts_in {L b s a : Int} {st : Nat} {xs : List AV} {σ : Store} {x6 x7 : Option AV} (hL : 0 ≤ L) (hL' : L ≤ 9) (hst : (st : Int) ≤ L) (hx : xs.length ≤ 200) : ∃ y6 y7,
 sForL (fun _ => true) (g := (gName 6)) (body := (SQ (QA 7 (dOr (dCmp .Eq (DV 1) (DC (.int (-1)))) (dCmp .Eq (DV 1) (DV 5)))) (SQ (QA 7 (dAnd (DV 7) (dOr (dCmp .Eq (DV 2) (DC (.int (-1)))) (dCmp .Eq (DV 2) (dBin .Sub (DV 6) (DV 5)))))) (SQ (sIf (bAnd (bVal (DV 7)) (bAnd (bOr (bVal (dCmp .Eq (DV 3) (DC (.int (-1))))) (bOr (bVal (dCmp .Eq (DV 3) (dBin .Sub (DV 0) (DV 6)))) (fun _ σ => Res.ok false σ))) (fun _ σ => Res.ok true σ))) (SQ (sExpr (dMethB .list spAppend (DV 4) (LC (dTup (LC (DV 5) (LC (dBin .Sub (DV 6) (DV 5)) LN))) LN))) SN) SN) SN)))) (itemsR st 1 (L + 1 - st).toNat) [some (.int L), some (.int b), some (.int s), some (.int a), some (.loc σ.length), some (.int st), x6, x7] (σ ++ [.list xs]) =
  .ok .next [some (.int L), some (.int b), some (.int s), some (.int a), some (.loc σ.length), some (.int st), y6, y7] (σ ++ [.list (xs ++ partsIn L b s a st (L + 1 - st).toNat)]) := by
 obtain ⟨fr', σ', hf, y6, y7, hfr, hs⟩ := forL_rule (chk := fun _ => true) (g := (gName 6)) (body := (SQ (QA 7 (dOr (dCmp .Eq (DV 1) (DC (.int (-1)))) (dCmp .Eq (DV 1) (DV 5)))) (SQ (QA 7 (dAnd (DV 7) (dOr (dCmp .Eq (DV 2) (DC (.int (-1)))) (dCmp .Eq (DV 2) (dBin .Sub (DV 6) (DV 5)))))) (SQ (sIf (bAnd (bVal (DV 7)) (bAnd (bOr (bVal (dCmp .Eq (DV 3) (DC (.int (-1))))) (bOr (bVal (dCmp .Eq (DV 3) (dBin .Sub (DV 0) (DV 6)))) (fun _ σ => Res.ok false σ))) (fun _ σ => Res.ok true σ))) (SQ (sExpr (dMethB .list spAppend (DV 4) (LC (dTup (LC (DV 5) (LC (dBin .Sub (DV 6) (DV 5)) LN))) LN))) SN) SN) SN))))
  (fun j fr σ' => ∃ y6 y7, fr = [some (.int L), some (.int b), some (.int s), some (.int a), some (.loc σ.length), some (.int st), y6, y7] ∧ σ' = σ ++ [.list (xs ++ partsIn L b s a st j)])
  (itemsR st 1 (L + 1 - st).toNat) 0 (fr := [some (.int L), some (.int b), some (.int s), some (.int a), some (.loc σ.length), some (.int st), x6, x7]) (σ := σ ++ [.list xs]) ⟨_, _, rfl, by simp [partsIn]⟩ (by
   rintro j y fr σ2 hj ⟨y6, y7, rfl, rfl⟩
   obtain ⟨hj, rfl⟩ := itemsR_get hj
   rw [Nat.zero_add]
   have hlen := partsIn_len (L := L) (b := b) (s := s) (a := a) (st := st) j
   have a1 := append_list (σ := σ ++ [.list (xs ++ partsIn L b s a st j)]) (v := .tup [.int st, .int (st + (j : Int) * 1 - st)]) getL_new (by rw [List.length_append]; tb_rel)
   have k1 := kind_list (σ := σ ++ [.list (xs ++ partsIn L b s a st j)]) getL_new
   rw [setL_new] at a1
   refine ⟨_, rfl, ?_⟩
   have e1 : (st : Int) + (j : Int) * 1 - st = j := by tb_rel
   have e2 : (st : Int) + (j : Int) * 1 = st + j := by tb_rel
   cases hz : (((decide (b = -1) || decide (b = (st : Int))) && (decide (s = -1) || decide (s = (st : Int) + (j : Int) * 1 - st))) && ((decide (a = -1) || (decide (a = L - ((st : Int) + (j : Int) * 1)) || false)) && true)) with
   | true =>
    refine ⟨[some (.int L), some (.int b), some (.int s), some (.int a), some (.loc σ.length), some (.int st), some (.int (st + (j : Int) * 1)), some (.bool _)], _, .inl (by (repeat' first | with_reducible refine' x_orB ?_ ?_ | with_reducible refine' x_andB ?_ ?_ | with_reducible refine' x_borB ?_ ?_ | with_reducible refine' x_bandB ?_ ?_ | (with_reducible first | exact x_cst | exact x_nil | exact x_snil | exact x_sub | exact c_eq | refine' x_next ?_ | refine' x_seq ?_ ?_ | refine' x_assign ?_ | refine' x_expr ?_ | refine' x_sif ?_ ?_ | refine' x_bval ?_ | refine' x_bin ?_ ?_ ?_ | refine' x_cmp ?_ ?_ ?_ | refine' x_tup ?_ ?_ | refine' x_methB ?_ ?_ ?_ ?_ | refine' x_cons ?_ ?_) | ((with_reducible refine' x_var ?h); case h => exact rfl) | ((with_reducible refine' x_snil' ?h); case h => exact rfl) | ((with_reducible refine' if_t ?h ?_); case h => top_raise) | ((with_reducible refine' if_f ?h ?_); case h => top_raise) | ((with_reducible show _ = _); with_reducible assumption) | ((with_reducible show Res.ok _ _ = _); exact rfl) | ((with_reducible show SRes.ok _ _ _ = _); exact rfl) | (exact Nat.le_of_ble_eq_true rfl))), rfl, _, _, rfl, ?_⟩
    rw [e1, e2] at hz
    rw [partsIn_succ, e1, if_pos (by simpa [Bool.and_eq_true, Bool.or_eq_true, and_assoc] using hz), ← List.append_assoc]; rfl
   | false =>
    refine ⟨[some (.int L), some (.int b), some (.int s), some (.int a), some (.loc σ.length), some (.int st), some (.int (st + (j : Int) * 1)), some (.bool _)], _, .inl (by (repeat' first | with_reducible refine' x_orB ?_ ?_ | with_reducible refine' x_andB ?_ ?_ | with_reducible refine' x_borB ?_ ?_ | with_reducible refine' x_bandB ?_ ?_ | (with_reducible first | exact x_cst | exact x_nil | exact x_snil | exact x_sub | exact c_eq | refine' x_next ?_ | refine' x_seq ?_ ?_ | refine' x_assign ?_ | refine' x_expr ?_ | refine' x_sif ?_ ?_ | refine' x_bval ?_ | refine' x_bin ?_ ?_ ?_ | refine' x_cmp ?_ ?_ ?_ | refine' x_tup ?_ ?_ | refine' x_methB ?_ ?_ ?_ ?_ | refine' x_cons ?_ ?_) | ((with_reducible refine' x_var ?h); case h => exact rfl) | ((with_reducible refine' x_snil' ?h); case h => exact rfl) | ((with_reducible refine' if_t ?h ?_); case h => top_raise) | ((with_reducible refine' if_f ?h ?_); case h => top_raise) | ((with_reducible show _ = _); with_reducible assumption) | ((with_reducible show Res.ok _ _ = _); exact rfl) | ((with_reducible show SRes.ok _ _ _ = _); exact rfl) | (exact Nat.le_of_ble_eq_true rfl))), rfl, _, _, rfl, ?_⟩
    rw [e1, e2] at hz
    rw [partsIn_succ, if_neg (by
     intro q
     have : (((decide (b = -1) || decide (b = (st : Int))) && (decide (s = -1) || decide (s = (j : Int)))) && ((decide (a = -1) || (decide (a = L - ((st : Int) + (j : Int))) || false)) && true)) = true := by
      simpa [Bool.and_eq_true, Bool.or_eq_true, and_assoc] using q
     rw [hz] at this; cases this), List.append_nil]; try rfl)
 rw [itemsR_len, Nat.zero_add] at hs
 subst hfr hs
 exact ⟨_, _, hf⟩
theorem items0_get {n k : Nat} {x : AV} (h : (itemsR 0 1 n)[k]? = some x) : k < n ∧ x = .int (k : Int) := by
 obtain ⟨h1, h2⟩ := itemsR_get h
 exact ⟨h1, by rw [h2, show (0 : Int) + (k : Int) * 1 = k by tb_rel]⟩
theorem small_of {i : Int} (h : -1000 ≤ i) (h' : i ≤ 1000) : small i = true := by unfold small; simp; tb_rel
theorem range1 {b : Int} (h : -1000 ≤ b) (h' : b ≤ 1000) : rangeOf [.int b] = some (0, 1, b.toNat) := if_pos (small_of h h')
theorem range2 {a b : Int} (h : -1000 ≤ a) (h' : a ≤ 1000) (h2 : -1000 ≤ b) (h3 : b ≤ 1000) : rangeOf [.int a, .int b] = some (a, 1, (b - a).toNat) := if_pos ⟨small_of h h', small_of h2 h3⟩
theorem parts_ok {L b s a : Int} {σ : Store} (hL : 0 ≤ L) (hL' : L ≤ 9) : sp_law_parts [.int L, .int b, .int s, .int a] σ = .ok (.loc σ.length) (σ ++ [.list (partsL L b s a (L + 1).toNat)]) := by
 obtain ⟨fr', σ', hf, y5, y6, y7, hfr, hs⟩ := forL_rule (chk := fun _ => true) (g := (gName 5)) (body := (SQ (sForR (LC (DV 5) (LC (dBin .Add (DV 0) (DC (.int 1))) LN)) (gName 6) (SQ (QA 7 (dOr (dCmp .Eq (DV 1) (DC (.int (-1)))) (dCmp .Eq (DV 1) (DV 5)))) (SQ (QA 7 (dAnd (DV 7) (dOr (dCmp .Eq (DV 2) (DC (.int (-1)))) (dCmp .Eq (DV 2) (dBin .Sub (DV 6) (DV 5)))))) (SQ (sIf (bAnd (bVal (DV 7)) (bAnd (bOr (bVal (dCmp .Eq (DV 3) (DC (.int (-1))))) (bOr (bVal (dCmp .Eq (DV 3) (dBin .Sub (DV 0) (DV 6)))) (fun _ σ => Res.ok false σ))) (fun _ σ => Res.ok true σ))) (SQ (sExpr (dMethB .list spAppend (DV 4) (LC (dTup (LC (DV 5) (LC (dBin .Sub (DV 6) (DV 5)) LN))) LN))) SN) SN) SN)))) SN))
  (fun j fr σ' => ∃ y5 y6 y7, fr = [some (.int L), some (.int b), some (.int s), some (.int a), some (.loc σ.length), y5, y6, y7] ∧ σ' = σ ++ [.list (partsL L b s a j)])
  (itemsR 0 1 (L + 1).toNat) 0 (fr := [some (.int L), some (.int b), some (.int s), some (.int a), some (.loc σ.length), none, none, none]) (σ := σ ++ [.list []]) ⟨_, _, _, rfl, by simp [partsL]⟩ (by
   rintro j y fr σ2 hj ⟨y5, y6, y7, rfl, rfl⟩
   obtain ⟨hj, rfl⟩ := items0_get hj
   rw [Nat.zero_add]
   have hlen := partsL_len (L := L) (b := b) (s := s) (a := a) hL' j
   obtain ⟨z6, z7, h⟩ := parts_in (L := L) (b := b) (s := s) (a := a) (st := j) (xs := partsL L b s a j) (σ := σ) (x6 := y6) (x7 := y7) hL hL' (by tb_rel) (by tb_rel)
   exact ⟨_, rfl, _, _, .inl (x_seq (x_forR (x_cons (x_var rfl) (x_cons (x_bin (x_var rfl) x_cst x_add) x_nil)) (range2 (by tb_rel) (by tb_rel) (by tb_rel) (by tb_rel)) h) (x_next x_snil)), rfl, _, _, _, rfl, rfl⟩)
 rw [itemsR_len, Nat.zero_add] at hs
 subst hfr hs
 exact x_func rfl (by
  unfold d_law_parts
  exact x_seq (x_assign (x_list x_nil (Nat.zero_le _))) (x_next (x_seq (x_forR (x_cons (x_bin (x_var rfl) x_cst x_add) x_nil) (range1 (by tb_rel) (by tb_rel)) hf) (x_next (x_seq (x_ret (x_var rfl)) x_andret)))))
end Mine
end
section
open PySem PySem.W PySem.Calls PyProof.Rows
namespace Mine
noncomputable abbrev PCd (L b s a st w : Int) : Prop := (b = -1 ∨ b = st) ∧ (s = -1 ∨ s = w) ∧ (a = -1 ∨ a = L - (st + w))
theorem partsIn_none {L b s a st : Int} : ∀ {n : Nat}, (∀ w : Nat, w < n → ¬ PCd L b s a st w) → partsIn L b s a st n = []
 | 0, _ => rfl
 | n + 1, h => by rw [partsIn_succ, partsIn_none fun w hw => h w (by tb_rel), if_neg (h n (by tb_rel))]; rfl
theorem partsIn_one {L b s a st : Int} {w0 : Nat} (h0 : PCd L b s a st w0) : ∀ {n : Nat}, (∀ w : Nat, w < n → PCd L b s a st w → w = w0) → partsIn L b s a st n = if w0 < n then [pr st w0] else []
 | 0, _ => by rw [if_neg (by tb_rel)]; rfl
 | n + 1, h => by
  rw [partsIn_succ, partsIn_one h0 fun w hw => h w (by tb_rel)]
  by_cases e : w0 = n
  · subst e
    rw [if_neg (Nat.lt_irrefl _), if_pos (Nat.lt_succ_self _), if_pos h0]; rfl
  · rw [if_neg (show ¬ _ from fun q => e (h n (by tb_rel) q).symm), List.append_nil]
    by_cases q : w0 < n
    · rw [if_pos q, if_pos (by tb_rel)]
    · rw [if_neg q, if_neg (by tb_rel)]
noncomputable def spanIn (st r a lo : Int) : Nat → List AV
 | 0 => []
 | k + 1 => spanIn st r a lo k ++ (if a = -1 ∨ r - (lo + k) = a then [pr st (lo + k)] else [])
theorem spanIn_len {st r a lo : Int} : ∀ n, (spanIn st r a lo n).length ≤ n
 | 0 => Nat.le_refl _
 | n + 1 => by
  have := spanIn_len (st := st) (r := r) (a := a) (lo := lo) n
  unfold spanIn; rw [List.length_append]; split <;> simp <;> tb_rel
theorem spanIn_all {L b st : Int} (hb : b = -1 ∨ b = st) : ∀ n, spanIn st (L - st) (-1) 0 n = partsIn L b (-1) (-1) st n
 | 0 => rfl
 | n + 1 => by
  rw [partsIn_succ, ← spanIn_all hb n, if_pos ⟨hb, .inl rfl, .inl rfl⟩]
  show _ ++ (if _ then _ else _) = _
  rw [if_pos (.inl rfl), show (0 : Int) + (n : Int) = n by tb_rel]
theorem span_s {L b s a st : Int} (hb : b = -1 ∨ b = st) (hs : s ≠ -1) (hs0 : -1 ≤ s) (hst : st ≤ L) :
 spanIn st (L - st) a s ((if L - st < s then L - st else s) + 1 - s).toNat = partsIn L b s a st (L + 1 - st).toNat := by
 by_cases h : s ≤ L - st
 · rw [if_neg (by tb_rel), show (s + 1 - s).toNat = 1 by tb_rel]
   have e : ((s.toNat : Nat) : Int) = s := by tb_rel
   show [] ++ (if _ then _ else _) = _
   rw [List.nil_append, show s + ((0 : Nat) : Int) = s by tb_rel]
   by_cases q : a = -1 ∨ L - st - s = a
   · rw [if_pos q, partsIn_one (w0 := s.toNat) ⟨hb, .inr e.symm, by rcases q with q | q; exact .inl q; exact .inr (by tb_rel)⟩ (fun w hw p => by have := p.2.1; tb_rel), if_pos (by tb_rel), e]
   · rw [if_neg q, partsIn_none fun w hw p => q (by
      have h1 := p.2.1
      have h2 := p.2.2
      rcases h2 with h2 | h2
      · exact .inl h2
      · exact .inr (by tb_rel))]
 · rw [if_pos (by tb_rel), show (L - st + 1 - s).toNat = 0 by tb_rel, partsIn_none fun w hw p => by
    have h1 := p.2.1
    tb_rel]; rfl
theorem span_a {L b a st : Int} (hb : b = -1 ∨ b = st) (ha : a ≠ -1) (ha0 : -1 ≤ a) (hst : st ≤ L) :
 spanIn st (L - st) a (if 0 > L - st - a then 0 else L - st - a) (L - st - a + 1 - (if 0 > L - st - a then 0 else L - st - a)).toNat = partsIn L b (-1) a st (L + 1 - st).toNat := by
 by_cases h : 0 > L - st - a
 · rw [if_pos h, show (L - st - a + 1 - 0).toNat = 0 by tb_rel, partsIn_none fun w hw p => by
    have h2 := p.2.2
    tb_rel]; rfl
 · rw [if_neg h, show (L - st - a + 1 - (L - st - a)).toNat = 1 by tb_rel]
   have e : (((L - st - a).toNat : Nat) : Int) = L - st - a := by tb_rel
   show [] ++ (if _ then _ else _) = _
   rw [List.nil_append, show L - st - a + ((0 : Nat) : Int) = L - st - a by tb_rel, if_pos (.inr (by tb_rel)), partsIn_one (w0 := (L - st - a).toNat) ⟨hb, .inl rfl, .inr (by tb_rel)⟩ (fun w hw p => by have := p.2.2; tb_rel), if_pos (by tb_rel), e]
theorem partsL_but {L b s a : Int} (hb : b ≠ -1) : ∀ {n : Nat}, (n : Int) ≤ b → partsL L b s a n = []
 | 0, _ => rfl
 | n + 1, h => by
  rw [partsL_succ, partsL_but hb (by tb_rel), partsIn_none fun w hw p => by
   have := p.1
   tb_rel]; rfl
theorem partsL_at {L b s a : Int} (hb0 : 0 ≤ b) : ∀ {n : Nat}, b < n → partsL L b s a n = partsIn L b s a b (L + 1 - b).toNat
 | 0, h => by tb_rel
 | n + 1, h => by
  rw [partsL_succ]
  by_cases e : (n : Int) = b
  · rw [partsL_but (by tb_rel) (by tb_rel), e]; rfl
  · rw [partsL_at hb0 (by tb_rel), partsIn_none (st := n) fun w hw p => by
     have := p.1
     tb_rel, List.append_nil]
theorem span_in {L b s a lo : Int} {st r : Int} {xs : List AV} {σ : Store} {m : Nat} {y10 x11 : Option AV} (hlo : -1 ≤ lo) (hlo' : lo ≤ 20) (hm : m ≤ 20) (hx : xs.length ≤ 400) (f l : Int) : ∃ y11,
 sForL (fun _ => true) (g := (gName 11)) (body := (SQ (sIf (bOr (bVal (dCmp .Eq (DV 3) (DC (.int (-1))))) (bOr (bVal (dCmp .Eq (dBin .Sub (DV 8) (DV 11)) (DV 3))) (fun _ σ => Res.ok false σ))) (SQ (sExpr (dMethB .list spAppend (DV 6) (LC (dTup (LC (DV 7) (LC (DV 11) LN))) LN))) SN) SN) SN)) (itemsR lo 1 m) [some (.int L), some (.int b), some (.int s), some (.int a), some (.int f), some (.int l), some (.loc σ.length), some (.int st), some (.int r), some (.int lo), y10, x11] (σ ++ [.list xs]) =
  .ok .next [some (.int L), some (.int b), some (.int s), some (.int a), some (.int f), some (.int l), some (.loc σ.length), some (.int st), some (.int r), some (.int lo), y10, y11] (σ ++ [.list (xs ++ spanIn st r a lo m)]) := by
 obtain ⟨fr', σ', hf, y11, hfr, hs⟩ := forL_rule (chk := fun _ => true) (g := (gName 11)) (body := (SQ (sIf (bOr (bVal (dCmp .Eq (DV 3) (DC (.int (-1))))) (bOr (bVal (dCmp .Eq (dBin .Sub (DV 8) (DV 11)) (DV 3))) (fun _ σ => Res.ok false σ))) (SQ (sExpr (dMethB .list spAppend (DV 6) (LC (dTup (LC (DV 7) (LC (DV 11) LN))) LN))) SN) SN) SN))
  (fun j fr σ' => ∃ y11, fr = [some (.int L), some (.int b), some (.int s), some (.int a), some (.int f), some (.int l), some (.loc σ.length), some (.int st), some (.int r), some (.int lo), y10, y11] ∧ σ' = σ ++ [.list (xs ++ spanIn st r a lo j)])
  (itemsR lo 1 m) 0 (fr := [some (.int L), some (.int b), some (.int s), some (.int a), some (.int f), some (.int l), some (.loc σ.length), some (.int st), some (.int r), some (.int lo), y10, x11]) (σ := σ ++ [.list xs]) ⟨_, rfl, by simp [spanIn]⟩ (by
   rintro j y fr σ2 hj ⟨y11, rfl, rfl⟩
   obtain ⟨hj, rfl⟩ := itemsR_get hj
   rw [Nat.zero_add, Int.mul_one]
   have hlen := spanIn_len (st := st) (r := r) (a := a) (lo := lo) j
   have a1 := append_list (σ := σ ++ [.list (xs ++ spanIn st r a lo j)]) (v := .tup [.int st, .int (lo + (j : Int))]) getL_new (by rw [List.length_append]; tb_rel)
   have k1 := kind_list (σ := σ ++ [.list (xs ++ spanIn st r a lo j)]) getL_new
   rw [setL_new] at a1
   refine ⟨_, rfl, ?_⟩
   have e : spanIn st r a lo (j + 1) = spanIn st r a lo j ++ (if a = -1 ∨ r - (lo + (j : Int)) = a then [pr st (lo + j)] else []) := rfl
   cases hz : (decide (a = -1) || (decide (r - (lo + (j : Int)) = a) || false)) with
   | true =>
    refine ⟨[some (.int L), some (.int b), some (.int s), some (.int a), some (.int f), some (.int l), some (.loc σ.length), some (.int st), some (.int r), some (.int lo), y10, some (.int (lo + (j : Int)))], _, .inl (by (repeat' first | with_reducible refine' x_borB ?_ ?_ | (with_reducible first | exact x_cst | exact x_nil | exact x_snil | exact x_sub | exact c_eq | refine' x_next ?_ | refine' x_seq ?_ ?_ | refine' x_expr ?_ | refine' x_sif ?_ ?_ | refine' x_bval ?_ | refine' x_bin ?_ ?_ ?_ | refine' x_cmp ?_ ?_ ?_ | refine' x_tup ?_ ?_ | refine' x_methB ?_ ?_ ?_ ?_ | refine' x_cons ?_ ?_) | ((with_reducible refine' x_var ?h); case h => exact rfl) | ((with_reducible refine' x_snil' ?h); case h => exact rfl) | ((with_reducible refine' if_t ?h ?_); case h => top_raise) | ((with_reducible refine' if_f ?h ?_); case h => top_raise) | ((with_reducible show _ = _); with_reducible assumption) | ((with_reducible show Res.ok _ _ = _); exact rfl) | ((with_reducible show SRes.ok _ _ _ = _); exact rfl) | (exact Nat.le_of_ble_eq_true rfl))), rfl, _, rfl, ?_⟩
    rw [e, if_pos (by simpa [Bool.or_eq_true] using hz), ← List.append_assoc]; rfl
   | false =>
    refine ⟨[some (.int L), some (.int b), some (.int s), some (.int a), some (.int f), some (.int l), some (.loc σ.length), some (.int st), some (.int r), some (.int lo), y10, some (.int (lo + (j : Int)))], _, .inl (by (repeat' first | with_reducible refine' x_borB ?_ ?_ | (with_reducible first | exact x_cst | exact x_nil | exact x_snil | exact x_sub | exact c_eq | refine' x_next ?_ | refine' x_seq ?_ ?_ | refine' x_expr ?_ | refine' x_sif ?_ ?_ | refine' x_bval ?_ | refine' x_bin ?_ ?_ ?_ | refine' x_cmp ?_ ?_ ?_ | refine' x_tup ?_ ?_ | refine' x_methB ?_ ?_ ?_ ?_ | refine' x_cons ?_ ?_) | ((with_reducible refine' x_var ?h); case h => exact rfl) | ((with_reducible refine' x_snil' ?h); case h => exact rfl) | ((with_reducible refine' if_t ?h ?_); case h => top_raise) | ((with_reducible refine' if_f ?h ?_); case h => top_raise) | ((with_reducible show _ = _); with_reducible assumption) | ((with_reducible show Res.ok _ _ = _); exact rfl) | ((with_reducible show SRes.ok _ _ _ = _); exact rfl) | (exact Nat.le_of_ble_eq_true rfl))), rfl, _, rfl, ?_⟩
    rw [e, if_neg (by simpa [Bool.or_eq_false_iff] using hz), List.append_nil]; try rfl)
 rw [itemsR_len, Nat.zero_add] at hs
 subst hfr hs
 exact ⟨_, hf⟩
end Mine
end
section
open PySem PySem.W PySem.Calls PyProof.Rows
namespace Mine
theorem r_min {i j : Int} {σ : Store} : spMin [.int i, .int j] σ = .ok (.int (if j < i then j else i)) σ := rfl
theorem r_max {i j : Int} {σ : Store} : spMax [.int i, .int j] σ = .ok (.int (if j > i then j else i)) σ := rfl
theorem span_step {L b s a f l st : Int} {xs : List AV} {σ : Store} {x8 x9 x10 x11 : Option AV} (hL' : L ≤ 9) (hs : -1 ≤ s) (hs' : s ≤ 9) (ha : -1 ≤ a) (ha' : a ≤ 9) (hb : b = -1 ∨ b = st) (h0 : 0 ≤ st) (hst : st ≤ L) (hx : xs.length ≤ 400) : ∃ y8 y9 y10 y11,
 ((SQ (QA 8 (dBin .Sub (DV 0) (DV 7))) (SQ (QA 9 (DC (.int 0))) (SQ (QA 10 (DV 8)) (SQ (sIf (bVal (dCmp .NotEq (DV 2) (DC (.int (-1))))) (SQ (QA 9 (DV 2)) (SQ (QA 10 (dCall spMin (LC (DV 2) (LC (DV 8) LN)))) SN)) (SQ (sIf (bVal (dCmp .NotEq (DV 3) (DC (.int (-1))))) (SQ (QA 9 (dCall spMax (LC (dBin .Sub (DV 8) (DV 3)) (LC (DC (.int 0)) LN)))) (SQ (QA 10 (dBin .Sub (DV 8) (DV 3))) SN)) SN) SN)) (SQ (sForR (LC (DV 9) (LC (dBin .Add (DV 10) (DC (.int 1))) LN)) (gName 11) (SQ (sIf (bOr (bVal (dCmp .Eq (DV 3) (DC (.int (-1))))) (bOr (bVal (dCmp .Eq (dBin .Sub (DV 8) (DV 11)) (DV 3))) (fun _ σ => Res.ok false σ))) (SQ (sExpr (dMethB .list spAppend (DV 6) (LC (dTup (LC (DV 7) (LC (DV 11) LN))) LN))) SN) SN) SN)) SN))))) : DS) [some (.int L), some (.int b), some (.int s), some (.int a), some (.int f), some (.int l), some (.loc σ.length), some (.int st), x8, x9, x10, x11] (σ ++ [.list xs]) =
  .ok .next [some (.int L), some (.int b), some (.int s), some (.int a), some (.int f), some (.int l), some (.loc σ.length), some (.int st), y8, y9, y10, y11] (σ ++ [.list (xs ++ partsIn L b s a st (L + 1 - st).toNat)]) := by
 by_cases q : s = -1
 · subst q
   by_cases q2 : a = -1
   · subst q2
     obtain ⟨y, h⟩ := span_in (L := L) (b := b) (s := -1) (a := -1) (lo := 0) (st := st) (r := L - st) (xs := xs) (σ := σ) (m := (L - st + 1 - 0).toNat) (y10 := some (.int (L - st))) (x11 := x11) (by tb_rel) (by tb_rel) (by tb_rel) hx f l
     rw [spanIn_all hb, show (L + 1 - st).toNat = (L - st + 1 - 0).toNat by tb_rel] at *
     exact ⟨some (.int (L - st)), some (.int 0), some (.int (L - st)), y, by (repeat' first | with_reducible refine' x_forR ?_ ?_ ?_ | with_reducible exact r_min | with_reducible exact r_max | ((with_reducible show rangeOf _ = _); exact range2 (by tb_rel) (by tb_rel) (by tb_rel) (by tb_rel)) | ((with_reducible show sForL _ _ _ _ _ _ = _); exact h) | (with_reducible first | exact x_cst | exact x_nil | exact x_snil | exact x_add | exact x_sub | exact c_ne | refine' x_next ?_ | refine' x_seq ?_ ?_ | refine' x_assign ?_ | refine' x_sif ?_ ?_ | refine' x_bval ?_ | refine' x_bin ?_ ?_ ?_ | refine' x_cmp ?_ ?_ ?_ | refine' x_call ?_ ?_ | refine' x_cons ?_ ?_) | ((with_reducible refine' x_var ?h); case h => exact rfl) | ((with_reducible refine' if_t ?h ?_); case h => top_raise) | ((with_reducible refine' if_f ?h ?_); case h => top_raise) | ((with_reducible show _ = _); with_reducible assumption) | ((with_reducible show Res.ok _ _ = _); exact rfl) | ((with_reducible show SRes.ok _ _ _ = _); exact rfl))⟩
   · have e := span_a (L := L) hb q2 ha hst
     rw [← e]
     generalize hlo : (if 0 > L - st - a then 0 else L - st - a) = lo at *
     have hl : 0 ≤ lo ∧ lo ≤ 9 := by rw [← hlo]; split <;> tb_rel
     obtain ⟨y, h⟩ := span_in (L := L) (b := b) (s := -1) (a := a) (lo := lo) (st := st) (r := L - st) (xs := xs) (σ := σ) (m := (L - st - a + 1 - lo).toNat) (y10 := some (.int (L - st - a))) (x11 := x11) (by tb_rel) (by tb_rel) (by tb_rel) hx f l
     have hm : ∀ σ, spMax [.int (L - st - a), .int 0] σ = .ok (.int lo) σ := fun _ => by rw [← hlo]; rfl
     exact ⟨some (.int (L - st)), some (.int lo), some (.int (L - st - a)), y, by (repeat' first | with_reducible refine' x_forR ?_ ?_ ?_ | with_reducible exact hm _ | ((with_reducible show rangeOf _ = _); exact range2 (by tb_rel) (by tb_rel) (by tb_rel) (by tb_rel)) | ((with_reducible show sForL _ _ _ _ _ _ = _); exact h) | (with_reducible first | exact x_cst | exact x_nil | exact x_snil | exact x_add | exact x_sub | exact c_ne | refine' x_next ?_ | refine' x_seq ?_ ?_ | refine' x_assign ?_ | refine' x_sif ?_ ?_ | refine' x_bval ?_ | refine' x_bin ?_ ?_ ?_ | refine' x_cmp ?_ ?_ ?_ | refine' x_call ?_ ?_ | refine' x_cons ?_ ?_) | ((with_reducible refine' x_var ?h); case h => exact rfl) | ((with_reducible refine' if_t ?h ?_); case h => top_raise) | ((with_reducible refine' if_f ?h ?_); case h => top_raise) | ((with_reducible show _ = _); with_reducible assumption) | ((with_reducible show Res.ok _ _ = _); exact rfl) | ((with_reducible show SRes.ok _ _ _ = _); exact rfl))⟩
 · have e := span_s (L := L) (a := a) hb q hs hst
   rw [← e]
   generalize hmo : (if L - st < s then L - st else s) = mo at *
   have hl : mo ≤ 9 ∧ -1 ≤ mo := by rw [← hmo]; split <;> tb_rel
   obtain ⟨y, h⟩ := span_in (L := L) (b := b) (s := s) (a := a) (lo := s) (st := st) (r := L - st) (xs := xs) (σ := σ) (m := (mo + 1 - s).toNat) (y10 := some (.int mo)) (x11 := x11) (by tb_rel) (by tb_rel) (by tb_rel) hx f l
   have hm : ∀ σ, spMin [.int s, .int (L - st)] σ = .ok (.int mo) σ := fun _ => by rw [← hmo]; rfl
   exact ⟨some (.int (L - st)), some (.int s), some (.int mo), y, by (repeat' first | with_reducible refine' x_forR ?_ ?_ ?_ | with_reducible exact hm _ | ((with_reducible show rangeOf _ = _); exact range2 (by tb_rel) (by tb_rel) (by tb_rel) (by tb_rel)) | ((with_reducible show sForL _ _ _ _ _ _ = _); exact h) | (with_reducible first | exact x_cst | exact x_nil | exact x_snil | exact x_add | exact x_sub | exact c_ne | refine' x_next ?_ | refine' x_seq ?_ ?_ | refine' x_assign ?_ | refine' x_sif ?_ ?_ | refine' x_bval ?_ | refine' x_bin ?_ ?_ ?_ | refine' x_cmp ?_ ?_ ?_ | refine' x_call ?_ ?_ | refine' x_cons ?_ ?_) | ((with_reducible refine' x_var ?h); case h => exact rfl) | ((with_reducible refine' if_t ?h ?_); case h => top_raise) | ((with_reducible refine' if_f ?h ?_); case h => top_raise) | ((with_reducible show _ = _); with_reducible assumption) | ((with_reducible show Res.ok _ _ = _); exact rfl) | ((with_reducible show SRes.ok _ _ _ = _); exact rfl))⟩
noncomputable def spanOut (L b s a f : Int) : Nat → List AV
 | 0 => []
 | k + 1 => spanOut L b s a f k ++ partsIn L b s a (f + k) (L + 1 - (f + k)).toNat
theorem spanOut_zero {L b s a : Int} : ∀ n, spanOut L b s a 0 n = partsL L b s a n
 | 0 => rfl
 | n + 1 => by
  show spanOut L b s a 0 n ++ partsIn L b s a (0 + n) (L + 1 - (0 + n)).toNat = _
  rw [spanOut_zero n, Int.zero_add]; rfl
theorem spanOut_len {L b s a f : Int} (hL : L ≤ 9) (hf : 0 ≤ f) : ∀ n, (spanOut L b s a f n).length ≤ 10 * n
 | 0 => Nat.le_refl _
 | n + 1 => by
  have h1 := spanOut_len (L := L) (b := b) (s := s) (a := a) hL hf n
  have h2 := partsIn_len (L := L) (b := b) (s := s) (a := a) (st := f + n) (L + 1 - (f + n)).toNat
  show (spanOut L b s a f n ++ _).length ≤ _
  rw [List.length_append]; tb_rel
theorem spans_loop {L b s a f l : Int} {σ : Store} {n : Nat} (hL' : L ≤ 9) (hs0 : -1 ≤ s) (hs' : s ≤ 9) (ha : -1 ≤ a) (ha' : a ≤ 9) (hf : 0 ≤ f) (hn : ∀ j : Nat, j < n → f + j ≤ L) (hb : ∀ j : Nat, j < n → b = -1 ∨ b = f + j) : ∃ y7 y8 y9 y10 y11,
 sForL (fun _ => true) (g := (gName 7)) (body := (SQ (QA 8 (dBin .Sub (DV 0) (DV 7))) (SQ (QA 9 (DC (.int 0))) (SQ (QA 10 (DV 8)) (SQ (sIf (bVal (dCmp .NotEq (DV 2) (DC (.int (-1))))) (SQ (QA 9 (DV 2)) (SQ (QA 10 (dCall spMin (LC (DV 2) (LC (DV 8) LN)))) SN)) (SQ (sIf (bVal (dCmp .NotEq (DV 3) (DC (.int (-1))))) (SQ (QA 9 (dCall spMax (LC (dBin .Sub (DV 8) (DV 3)) (LC (DC (.int 0)) LN)))) (SQ (QA 10 (dBin .Sub (DV 8) (DV 3))) SN)) SN) SN)) (SQ (sForR (LC (DV 9) (LC (dBin .Add (DV 10) (DC (.int 1))) LN)) (gName 11) (SQ (sIf (bOr (bVal (dCmp .Eq (DV 3) (DC (.int (-1))))) (bOr (bVal (dCmp .Eq (dBin .Sub (DV 8) (DV 11)) (DV 3))) (fun _ σ => Res.ok false σ))) (SQ (sExpr (dMethB .list spAppend (DV 6) (LC (dTup (LC (DV 7) (LC (DV 11) LN))) LN))) SN) SN) SN)) SN)))))) (itemsR f 1 n) [some (.int L), some (.int b), some (.int s), some (.int a), some (.int f), some (.int l), some (.loc σ.length), none, none, none, none, none] (σ ++ [.list []]) =
  .ok .next [some (.int L), some (.int b), some (.int s), some (.int a), some (.int f), some (.int l), some (.loc σ.length), y7, y8, y9, y10, y11] (σ ++ [.list (spanOut L b s a f n)]) := by
 obtain ⟨fr', σ', hf', y7, y8, y9, y10, y11, hfr, hs⟩ := forL_rule (chk := fun _ => true) (g := (gName 7)) (body := (SQ (QA 8 (dBin .Sub (DV 0) (DV 7))) (SQ (QA 9 (DC (.int 0))) (SQ (QA 10 (DV 8)) (SQ (sIf (bVal (dCmp .NotEq (DV 2) (DC (.int (-1))))) (SQ (QA 9 (DV 2)) (SQ (QA 10 (dCall spMin (LC (DV 2) (LC (DV 8) LN)))) SN)) (SQ (sIf (bVal (dCmp .NotEq (DV 3) (DC (.int (-1))))) (SQ (QA 9 (dCall spMax (LC (dBin .Sub (DV 8) (DV 3)) (LC (DC (.int 0)) LN)))) (SQ (QA 10 (dBin .Sub (DV 8) (DV 3))) SN)) SN) SN)) (SQ (sForR (LC (DV 9) (LC (dBin .Add (DV 10) (DC (.int 1))) LN)) (gName 11) (SQ (sIf (bOr (bVal (dCmp .Eq (DV 3) (DC (.int (-1))))) (bOr (bVal (dCmp .Eq (dBin .Sub (DV 8) (DV 11)) (DV 3))) (fun _ σ => Res.ok false σ))) (SQ (sExpr (dMethB .list spAppend (DV 6) (LC (dTup (LC (DV 7) (LC (DV 11) LN))) LN))) SN) SN) SN)) SN))))))
  (fun j fr σ' => ∃ y7 y8 y9 y10 y11, fr = [some (.int L), some (.int b), some (.int s), some (.int a), some (.int f), some (.int l), some (.loc σ.length), y7, y8, y9, y10, y11] ∧ σ' = σ ++ [.list (spanOut L b s a f j)])
  (itemsR f 1 n) 0 (fr := [some (.int L), some (.int b), some (.int s), some (.int a), some (.int f), some (.int l), some (.loc σ.length), none, none, none, none, none]) (σ := σ ++ [.list []]) ⟨_, _, _, _, _, rfl, rfl⟩ (by
   rintro j y fr σ2 hj ⟨y7, y8, y9, y10, y11, rfl, rfl⟩
   obtain ⟨hk, rfl⟩ := itemsR_get hj
   rw [Nat.zero_add, Int.mul_one]
   have hlen := spanOut_len (L := L) (b := b) (s := s) (a := a) (f := f) hL' hf j
   obtain ⟨z8, z9, z10, z11, h⟩ := span_step (L := L) (b := b) (s := s) (a := a) (f := f) (l := l) (st := f + j) (xs := spanOut L b s a f j) (σ := σ) (x8 := y8) (x9 := y9) (x10 := y10) (x11 := y11) hL' hs0 hs' ha ha' (hb j hk) (by tb_rel) (hn j hk) (by have := hn j hk; tb_rel)
   exact ⟨_, rfl, _, _, .inl h, rfl, _, _, _, _, _, rfl, rfl⟩)
 rw [itemsR_len, Nat.zero_add] at hs
 subst hfr hs
 exact ⟨_, _, _, _, _, hf'⟩
theorem spans_ok {L b s a : Int} {σ : Store} (hL : 0 ≤ L) (hL' : L ≤ 9) (hb : -1 ≤ b) (hb' : b ≤ 9) (hs : -1 ≤ s) (hs' : s ≤ 9) (ha : -1 ≤ a) (ha' : a ≤ 9) : sp_spans [.int L, .int b, .int s, .int a] σ = .ok (.loc σ.length) (σ ++ [.list (partsL L b s a (L + 1).toNat)]) := by
 by_cases q : b = -1
 · subst q
   obtain ⟨y7, y8, y9, y10, y11, h⟩ := spans_loop (L := L) (b := -1) (s := s) (a := a) (f := 0) (l := L) (σ := σ) (n := (L + 1 - 0).toNat) hL' hs hs' ha ha' (by tb_rel) (fun j hj => by tb_rel) (fun _ _ => .inl rfl)
   rw [spanOut_zero, show (L + 1).toNat = (L + 1 - 0).toNat by tb_rel] at *
   exact x_func rfl (by unfold d_spans; (repeat' first | with_reducible refine' x_forR ?_ ?_ ?_ | ((with_reducible show rangeOf _ = _); exact range2 (by tb_rel) (by tb_rel) (by tb_rel) (by tb_rel)) | ((with_reducible show sForL _ _ _ _ _ _ = _); exact h) | (with_reducible first | exact x_cst | exact x_nil | exact x_snil | exact x_andret | exact x_add | exact c_ne | refine' x_next ?_ | refine' x_seq ?_ ?_ | refine' x_assign ?_ | refine' x_ret ?_ | refine' x_sif ?_ ?_ | refine' x_bval ?_ | refine' x_bin ?_ ?_ ?_ | refine' x_cmp ?_ ?_ ?_ | refine' x_list ?_ ?_ | refine' x_call ?_ ?_ | refine' x_cons ?_ ?_) | ((with_reducible refine' x_var ?h); case h => exact rfl) | ((with_reducible refine' if_t ?h ?_); case h => top_raise) | ((with_reducible refine' if_f ?h ?_); case h => top_raise) | ((with_reducible show _ = _); with_reducible assumption) | ((with_reducible show Res.ok _ _ = _); exact rfl) | ((with_reducible show SRes.ok _ _ _ = _); exact rfl) | (exact Nat.le_of_ble_eq_true rfl)))
 · by_cases q2 : b ≤ L
   · obtain ⟨y7, y8, y9, y10, y11, h⟩ := spans_loop (L := L) (b := b) (s := s) (a := a) (f := b) (l := b) (σ := σ) (n := (b + 1 - b).toNat) hL' hs hs' ha ha' (by tb_rel) (fun j hj => by tb_rel) (fun j hj => .inr (by tb_rel))
     rw [partsL_at (n := (L + 1).toNat) (by tb_rel) (by tb_rel)]
     have e : spanOut L b s a b (b + 1 - b).toNat = partsIn L b s a b (L + 1 - b).toNat := by
      rw [show (b + 1 - b).toNat = 0 + 1 by tb_rel]
      show [] ++ partsIn L b s a (b + ((0 : Nat) : Int)) (L + 1 - (b + ((0 : Nat) : Int))).toNat = _
      rw [show b + ((0 : Nat) : Int) = b by tb_rel]; rfl
     rw [e] at h
     have hm : ∀ σ, spMin [.int b, .int L] σ = .ok (.int b) σ := fun _ => by rw [r_min, if_neg (by tb_rel)]
     exact x_func rfl (by unfold d_spans; (repeat' first | with_reducible refine' x_forR ?_ ?_ ?_ | with_reducible exact hm _ | ((with_reducible show rangeOf _ = _); exact range2 (by tb_rel) (by tb_rel) (by tb_rel) (by tb_rel)) | ((with_reducible show sForL _ _ _ _ _ _ = _); exact h) | (with_reducible first | exact x_cst | exact x_nil | exact x_snil | exact x_andret | exact x_add | exact c_ne | refine' x_next ?_ | refine' x_seq ?_ ?_ | refine' x_assign ?_ | refine' x_ret ?_ | refine' x_sif ?_ ?_ | refine' x_bval ?_ | refine' x_bin ?_ ?_ ?_ | refine' x_cmp ?_ ?_ ?_ | refine' x_list ?_ ?_ | refine' x_call ?_ ?_ | refine' x_cons ?_ ?_) | ((with_reducible refine' x_var ?h); case h => exact rfl) | ((with_reducible refine' if_t ?h ?_); case h => top_raise) | ((with_reducible refine' if_f ?h ?_); case h => top_raise) | ((with_reducible show _ = _); with_reducible assumption) | ((with_reducible show Res.ok _ _ = _); exact rfl) | ((with_reducible show SRes.ok _ _ _ = _); exact rfl) | (exact Nat.le_of_ble_eq_true rfl)))
   · obtain ⟨y7, y8, y9, y10, y11, h⟩ := spans_loop (L := L) (b := b) (s := s) (a := a) (f := b) (l := L) (σ := σ) (n := (L + 1 - b).toNat) hL' hs hs' ha ha' (by tb_rel) (fun j hj => by tb_rel) (fun j hj => by tb_rel)
     rw [partsL_but q (by tb_rel)]
     have e : spanOut L b s a b (L + 1 - b).toNat = [] := by rw [show (L + 1 - b).toNat = 0 by tb_rel]; rfl
     rw [e] at h
     have hm : ∀ σ, spMin [.int b, .int L] σ = .ok (.int L) σ := fun _ => by rw [r_min, if_pos (by tb_rel)]
     exact x_func rfl (by unfold d_spans; (repeat' first | with_reducible refine' x_forR ?_ ?_ ?_ | with_reducible exact hm _ | ((with_reducible show rangeOf _ = _); exact range2 (by tb_rel) (by tb_rel) (by tb_rel) (by tb_rel)) | ((with_reducible show sForL _ _ _ _ _ _ = _); exact h) | (with_reducible first | exact x_cst | exact x_nil | exact x_snil | exact x_andret | exact x_add | exact c_ne | refine' x_next ?_ | refine' x_seq ?_ ?_ | refine' x_assign ?_ | refine' x_ret ?_ | refine' x_sif ?_ ?_ | refine' x_bval ?_ | refine' x_bin ?_ ?_ ?_ | refine' x_cmp ?_ ?_ ?_ | refine' x_list ?_ ?_ | refine' x_call ?_ ?_ | refine' x_cons ?_ ?_) | ((with_reducible refine' x_var ?h); case h => exact rfl) | ((with_reducible refine' if_t ?h ?_); case h => top_raise) | ((with_reducible refine' if_f ?h ?_); case h => top_raise) | ((with_reducible show _ = _); with_reducible assumption) | ((with_reducible show Res.ok _ _ = _); exact rfl) | ((with_reducible show SRes.ok _ _ _ = _); exact rfl) | (exact Nat.le_of_ble_eq_true rfl)))
end Mine
end
section
open PySem PySem.W PySem.Calls PyProof.Rows
namespace Mine
section
variable {κ : Type} [DecidableEq κ]
noncomputable def ix : List κ → κ → Nat
 | [], _ => 0
 | u :: r, t => if u = t then 0 else ix r t + 1
theorem ix_app {t : κ} : ∀ {T : List κ}, t ∉ T → ix (T ++ [t]) t = T.length
 | [], _ => if_pos rfl
 | u :: r, h => by
  show (if u = t then 0 else ix (r ++ [t]) t + 1) = _
  rw [if_neg fun q => h (List.mem_cons.mpr (.inl q.symm)), ix_app fun q => h (List.mem_cons.mpr (.inr q))]; rfl
theorem ix_mem {t u : κ} : ∀ {T : List κ}, t ∈ T → ix (T ++ [u]) t = ix T t
 | w :: r, h => by
  show (if w = t then 0 else ix (r ++ [u]) t + 1) = if w = t then 0 else ix r t + 1
  by_cases e : w = t
  · rw [if_pos e, if_pos e]
  · rw [if_neg e, if_neg e, ix_mem ((List.mem_cons.mp h).resolve_left fun q => e q.symm)]
noncomputable def num : List κ → Nat → List (κ × AV)
 | [], _ => []
 | t :: r, k => (t, .int k) :: num r (k + 1)
theorem num_app (t : κ) : ∀ (T : List κ) (k : Nat), num (T ++ [t]) k = num T k ++ [(t, .int ((k + T.length : Nat) : Int))]
 | [], k => rfl
 | u :: r, k => by
  show (u, AV.int k) :: num (r ++ [t]) (k + 1) = _
  rw [num_app t r (k + 1), List.length_cons, show k + 1 + r.length = k + (r.length + 1) by tb_rel]; rfl
theorem num_len : ∀ (T : List κ) (k : Nat), (num T k).length = T.length
 | [], _ => rfl
 | _ :: r, k => by show (num r (k + 1)).length + 1 = _; rw [num_len r]; rfl
theorem num_find {t : κ} : ∀ {T : List κ} (k : Nat), t ∈ T → (num T k).find? (fun e => decide (e.1 = t)) = some (t, .int ((k + ix T t : Nat) : Int))
 | u :: r, k, h => by
  show ((u, AV.int k) :: num r (k + 1)).find? _ = _
  rw [List.find?_cons]
  by_cases e : u = t
  · subst e
    rw [decide_eq_true (show (u, AV.int k).1 = u from rfl), show ix (u :: r) u = 0 from if_pos rfl]; rfl
  · rw [decide_eq_false (show ¬ (u, AV.int k).1 = t from e), num_find (k + 1) ((List.mem_cons.mp h).resolve_left fun q => e q.symm), show ix (u :: r) t = ix r t + 1 from if_neg e, show k + 1 + ix r t = k + (ix r t + 1) by tb_rel]
theorem num_none {t : κ} : ∀ {T : List κ} (k : Nat), t ∉ T → (num T k).find? (fun e => decide (e.1 = t)) = none
 | [], _, _ => rfl
 | u :: r, k, h => by
  show ((u, AV.int k) :: num r (k + 1)).find? _ = _
  rw [List.find?_cons, decide_eq_false (show ¬ (u, AV.int k).1 = t from fun q => h (List.mem_cons.mpr (.inl q.symm))), num_none (k + 1) fun q => h (List.mem_cons.mpr (.inr q))]
theorem num_any {t : κ} : ∀ {T : List κ} (k : Nat), t ∉ T → ((num T k).any fun e => decide (e.1 = t)) = false
 | [], _, _ => rfl
 | u :: r, k, h => by
  show (decide (u = t) || (num r (k + 1)).any _) = false
  rw [decide_eq_false (fun q => h (List.mem_cons.mpr (.inl q.symm))), num_any (k + 1) fun q => h (List.mem_cons.mpr (.inr q))]; rfl
theorem setAt_new {t : κ} {v : AV} {es : List (κ × AV)} (h : (es.any fun e => decide (e.1 = t)) = false) : setAt t v es = es ++ [(t, v)] := by
 unfold setAt; rw [h]; rfl
noncomputable def add (T : List κ) (t : κ) : List κ := if t ∈ T then T else T ++ [t]
theorem add_nd {T : List κ} {t : κ} (h : T.Nodup) : (add T t).Nodup := by
 unfold add; split
 · exact h
 · rename_i q
   rw [List.nodup_append]
   exact ⟨h, by simp, fun a ha b hb => by rw [List.mem_singleton.mp hb]; rintro rfl; exact q ha⟩
theorem add_mem {T : List κ} {t : κ} : t ∈ add T t := by unfold add; split; assumption; simp
theorem add_len {T : List κ} {t : κ} : (add T t).length ≤ T.length + 1 := by unfold add; split <;> simp
end
noncomputable def fAV (p : Int × Int) : AV := .tup [.int p.1, .int p.2]
structure Sym (T : List (List Nat)) (F : List (Int × Int)) (σ : Store) : Prop where
 inst : σ[4]? = some (.inst 0 [(0, .loc 5), (1, .loc 6), (2, .loc 7), (3, .loc 8)])
 texts : σ[5]? = some (.list (T.map .str))
 nums : σ[6]? = some (.dictS (num T 0))
 funs : σ[7]? = some (.list (F.map fAV))
 fnums : σ[8]? = some (.dictP (num F 0))
 lT : T.length ≤ 900
 lF : F.length ≤ 900
theorem Sym.keep {T : List (List Nat)} {F : List (Int × Int)} {σ σ' : Store} {t : List Nat} (S : Sym T F σ) (k : Keep t σ σ') (h : ∀ i ∈ t, 9 ≤ i ∨ i ≤ 3) : Sym T F σ' := by
 have n : ∀ j, 4 ≤ j → j ≤ 8 → j ∉ t := fun j a b q => by have := h j q; tb_rel
 exact ⟨k.at_ _ _ (n 4 (by decide) (by decide)) S.inst, k.at_ _ _ (n 5 (by decide) (by decide)) S.texts, k.at_ _ _ (n 6 (by decide) (by decide)) S.nums, k.at_ _ _ (n 7 (by decide) (by decide)) S.funs, k.at_ _ _ (n 8 (by decide) (by decide)) S.fnums, S.lT, S.lF⟩
theorem get_set {σ : Store} {i j : Nat} {o o' : AO} (h : i ≠ j) (e : σ[j]? = some o) : (σ.set i o')[j]? = some o := by rw [List.getElem?_set_ne h]; exact e
theorem get_self {σ : Store} {i : Nat} {o o' : AO} (e : σ[i]? = some o) : (σ.set i o')[i]? = some o' := by rw [List.getElem?_set_self (List.getElem?_eq_some_iff.mp e).1]
theorem get_dS {σ : Store} {n : Nat} {k : List Nat} {d : AV} {es : List (List Nat × AV)} {e : List Nat × AV} (h : σ[n]? = some (.dictS es)) (hf : es.find? (fun e => decide (e.1 = k)) = some e) : spGet [.loc n, .str k, d] σ = .ok e.2 σ := by
 conv => lhs; whnf
 rw [h]; conv => lhs; whnf
 rw [hf]
theorem get_dS' {σ : Store} {n : Nat} {k : List Nat} {d : AV} {es : List (List Nat × AV)} (h : σ[n]? = some (.dictS es)) (hf : es.find? (fun e => decide (e.1 = k)) = none) : spGet [.loc n, .str k, d] σ = .ok d σ := by
 conv => lhs; whnf
 rw [h]; conv => lhs; whnf
 rw [hf]
theorem get_dP {σ : Store} {n : Nat} {i j : Int} {d : AV} {es : List ((Int × Int) × AV)} {e : (Int × Int) × AV} (h : σ[n]? = some (.dictP es)) (hf : es.find? (fun e => decide (e.1 = (i, j))) = some e) : spGet [.loc n, .tup [.int i, .int j], d] σ = .ok e.2 σ := by
 conv => lhs; whnf
 rw [h]; conv => lhs; whnf
 rw [hf]
theorem get_dP' {σ : Store} {n : Nat} {i j : Int} {d : AV} {es : List ((Int × Int) × AV)} (h : σ[n]? = some (.dictP es)) (hf : es.find? (fun e => decide (e.1 = (i, j))) = none) : spGet [.loc n, .tup [.int i, .int j], d] σ = .ok d σ := by
 conv => lhs; whnf
 rw [h]; conv => lhs; whnf
 rw [hf]
theorem atom_ok {T : List (List Nat)} {F : List (Int × Int)} {σ : Store} {t : List Nat} (S : Sym T F σ) (hl : T.length < 900) : ∃ σ', sp_sy_atom [.loc 4, .str t] σ = .ok (.int (ix (add T t) t)) σ' ∧ Sym (add T t) F σ' ∧ Keep [5, 6] σ σ' := by
 have i0 := attr_ok (k := 0) S.inst (by decide) rfl
 have i1 := attr_ok (k := 1) S.inst (by decide) rfl
 have kd := kind_dictS S.nums
 by_cases q : t ∈ T
 · have g := get_dS (d := .int (-1)) S.nums (num_find 0 q)
   rw [Nat.zero_add] at g
   rw [show add T t = T from if_pos q]
   exact ⟨σ, x_func rfl (by unfold d_sy_atom; (repeat' first | (with_reducible first | exact x_cst | exact x_nil | exact x_snil | exact x_andret | exact c_ge | refine' x_next ?_ | refine' x_seq ?_ ?_ | refine' x_assign ?_ | refine' x_ret ?_ | refine' x_expr ?_ | refine' x_sif ?_ ?_ | refine' x_bval ?_ | refine' x_cmp ?_ ?_ ?_ | refine' x_neg ?_ | refine' x_attr ?_ ?_ | refine' x_call ?_ ?_ | refine' x_methB ?_ ?_ ?_ ?_ | refine' x_cons ?_ ?_ | refine' x_setitem ?_ ?_ ?_ ?_) | ((with_reducible refine' x_var ?h); case h => exact rfl) | ((with_reducible refine' if_t ?h ?_); case h => top_raise) | ((with_reducible refine' if_f ?h ?_); case h => top_raise) | ((with_reducible show _ = _); with_reducible assumption) | ((with_reducible show Res.ok _ _ = _); exact rfl) | ((with_reducible show SRes.ok _ _ _ = _); exact rfl))), S, Keep.refl⟩
 · have g := get_dS' (d := .int (-1)) S.nums (num_none 0 q)
   have ln := len_list S.texts (by rw [List.length_map]; have := S.lT; tb_rel)
   have kl := kind_list S.texts
   have ap := append_list (v := .str t) S.texts (by rw [List.length_map]; have := S.lT; tb_rel)
   have i1' := attr_ok (k := 1) (get_set (o' := .list (T.map .str ++ [.str t])) (show 5 ≠ 4 by decide) S.inst) (by decide) rfl
   have st : ∀ fr, setItemF (.loc 6) (.str t) (.int ((T.map AV.str).length : Nat)) fr (σ.set 5 (.list (T.map .str ++ [.str t]))) = some (fr, (σ.set 5 (.list (T.map .str ++ [.str t]))).set 6 (.dictS (num (T ++ [t]) 0))) := fun fr => by
    rw [setItem_dictS (get_set (by decide) S.nums) (by rw [num_len]; have := S.lT; tb_rel), setAt_new (num_any 0 q), num_app, List.length_map, Nat.zero_add]
   have hx : ix (T ++ [t]) t = T.length := ix_app q
   rw [show add T t = T ++ [t] from if_neg q, hx, ← List.length_map (f := AV.str) (as := T)]
   refine ⟨_, x_func rfl (by unfold d_sy_atom; (repeat' first | with_reducible exact st _ | (with_reducible first | exact x_cst | exact x_nil | exact x_snil | exact x_andret | exact c_ge | refine' x_next ?_ | refine' x_seq ?_ ?_ | refine' x_assign ?_ | refine' x_ret ?_ | refine' x_expr ?_ | refine' x_sif ?_ ?_ | refine' x_bval ?_ | refine' x_cmp ?_ ?_ ?_ | refine' x_neg ?_ | refine' x_attr ?_ ?_ | refine' x_call ?_ ?_ | refine' x_methB ?_ ?_ ?_ ?_ | refine' x_cons ?_ ?_ | refine' x_setitem ?_ ?_ ?_ ?_) | ((with_reducible refine' x_var ?h); case h => exact rfl) | ((with_reducible refine' if_t ?h ?_); case h => top_raise) | ((with_reducible refine' if_f ?h ?_); case h => top_raise) | ((with_reducible show _ = _); with_reducible assumption) | ((with_reducible show Res.ok _ _ = _); exact rfl) | ((with_reducible show SRes.ok _ _ _ = _); exact rfl))), ⟨?_, ?_, ?_, ?_, ?_, by simp; tb_rel, S.lF⟩, ?_⟩
   · exact get_set (by decide) (get_set (by decide) S.inst)
   · rw [List.map_append]; exact get_set (by decide) (get_self S.texts)
   · exact get_self (get_set (by decide) S.nums)
   · exact get_set (by decide) (get_set (by decide) S.funs)
   · exact get_set (by decide) (get_set (by decide) S.fnums)
   · exact (Keep.set (by kts_caught)).trans (Keep.set (by kts_caught))
end Mine
end
section
open PySem PySem.W PySem.Calls PyProof.Rows
namespace Mine
theorem functor_ok {T : List (List Nat)} {F : List (Int × Int)} {σ : Store} {a n : Int} (S : Sym T F σ) (hl : F.length < 900) : ∃ σ', sp_sy_functor [.loc 4, .int a, .int n] σ = .ok (.int (ix (add F (a, n)) (a, n))) σ' ∧ Sym T (add F (a, n)) σ' ∧ Keep [7, 8] σ σ' := by
 have i0 := attr_ok (k := 2) S.inst (by decide) rfl
 have i1 := attr_ok (k := 3) S.inst (by decide) rfl
 have kd := kind_dictP S.fnums
 by_cases q : (a, n) ∈ F
 · have g := get_dP (d := .int (-1)) S.fnums (num_find 0 q)
   rw [Nat.zero_add] at g
   rw [show add F (a, n) = F from if_pos q]
   exact ⟨σ, x_func rfl (by unfold d_sy_functor; (repeat' first | (with_reducible first | exact x_cst | exact x_nil | exact x_snil | exact x_andret | exact c_ge | refine' x_next ?_ | refine' x_seq ?_ ?_ | refine' x_assign ?_ | refine' x_ret ?_ | refine' x_expr ?_ | refine' x_sif ?_ ?_ | refine' x_bval ?_ | refine' x_cmp ?_ ?_ ?_ | refine' x_neg ?_ | refine' x_attr ?_ ?_ | refine' x_tup ?_ ?_ | refine' x_call ?_ ?_ | refine' x_methB ?_ ?_ ?_ ?_ | refine' x_cons ?_ ?_ | refine' x_setitem ?_ ?_ ?_ ?_) | ((with_reducible refine' x_var ?h); case h => exact rfl) | ((with_reducible refine' if_t ?h ?_); case h => top_raise) | ((with_reducible refine' if_f ?h ?_); case h => top_raise) | ((with_reducible show _ = _); with_reducible assumption) | ((with_reducible show Res.ok _ _ = _); exact rfl) | ((with_reducible show SRes.ok _ _ _ = _); exact rfl) | (exact Nat.le_of_ble_eq_true rfl))), S, Keep.refl⟩
 · have g := get_dP' (d := .int (-1)) S.fnums (num_none 0 q)
   have ln := len_list S.funs (by rw [List.length_map]; have := S.lF; tb_rel)
   have kl := kind_list S.funs
   have ap := append_list (v := .tup [.int a, .int n]) S.funs (by rw [List.length_map]; have := S.lF; tb_rel)
   have i1' := attr_ok (k := 3) (get_set (o' := .list (F.map fAV ++ [.tup [.int a, .int n]])) (show 7 ≠ 4 by decide) S.inst) (by decide) rfl
   have st : ∀ fr, setItemF (.loc 8) (.tup [.int a, .int n]) (.int ((F.map fAV).length : Nat)) fr (σ.set 7 (.list (F.map fAV ++ [.tup [.int a, .int n]]))) = some (fr, (σ.set 7 (.list (F.map fAV ++ [.tup [.int a, .int n]]))).set 8 (.dictP (num (F ++ [(a, n)]) 0))) := fun fr => by
    rw [setItem_dictP (get_set (by decide) S.fnums) (by rw [num_len]; have := S.lF; tb_rel), setAt_new (num_any 0 q), num_app, List.length_map, Nat.zero_add]
   have hx : ix (F ++ [(a, n)]) (a, n) = F.length := ix_app q
   rw [show add F (a, n) = F ++ [(a, n)] from if_neg q, hx, ← List.length_map (f := fAV) (as := F)]
   refine ⟨_, x_func rfl (by unfold d_sy_functor; (repeat' first | with_reducible exact st _ | (with_reducible first | exact x_cst | exact x_nil | exact x_snil | exact x_andret | exact c_ge | refine' x_next ?_ | refine' x_seq ?_ ?_ | refine' x_assign ?_ | refine' x_ret ?_ | refine' x_expr ?_ | refine' x_sif ?_ ?_ | refine' x_bval ?_ | refine' x_cmp ?_ ?_ ?_ | refine' x_neg ?_ | refine' x_attr ?_ ?_ | refine' x_tup ?_ ?_ | refine' x_call ?_ ?_ | refine' x_methB ?_ ?_ ?_ ?_ | refine' x_cons ?_ ?_ | refine' x_setitem ?_ ?_ ?_ ?_) | ((with_reducible refine' x_var ?h); case h => exact rfl) | ((with_reducible refine' if_t ?h ?_); case h => top_raise) | ((with_reducible refine' if_f ?h ?_); case h => top_raise) | ((with_reducible show _ = _); with_reducible assumption) | ((with_reducible show Res.ok _ _ = _); exact rfl) | ((with_reducible show SRes.ok _ _ _ = _); exact rfl) | (exact Nat.le_of_ble_eq_true rfl))), ⟨?_, ?_, ?_, ?_, ?_, S.lT, by simp; tb_rel⟩, ?_⟩
   · exact get_set (by decide) (get_set (by decide) S.inst)
   · exact get_set (by decide) (get_set (by decide) S.texts)
   · exact get_set (by decide) (get_set (by decide) S.nums)
   · rw [List.map_append]; exact get_set (by decide) (get_self S.funs)
   · exact get_self (get_set (by decide) S.fnums)
   · exact (Keep.set (by kts_caught)).trans (Keep.set (by kts_caught))
theorem func_ok {T : List (List Nat)} {F : List (Int × Int)} {σ : Store} {t : List Nat} {n : Int} (S : Sym T F σ) (hT : T.length < 900) (hF : F.length < 900) :
 ∃ σ', sp_sy_func [.loc 4, .str t, .int n] σ = .ok (.int (ix (add F ((ix (add T t) t : Nat), n)) ((ix (add T t) t : Nat), n))) σ' ∧ Sym (add T t) (add F ((ix (add T t) t : Nat), n)) σ' ∧ Keep [5, 6, 7, 8] σ σ' := by
 obtain ⟨σ1, e1, S1, k1⟩ := atom_ok (t := t) S hT
 obtain ⟨σ2, e2, S2, k2⟩ := functor_ok (a := (ix (add T t) t : Nat)) (n := n) S1 hF
 have h4 := S.inst
 exact ⟨σ2, x_func rfl (by unfold d_sy_func; (repeat' first | (with_reducible first | exact x_nil | exact x_andret | refine' x_seq ?_ ?_ | refine' x_ret ?_ | refine' x_meth ?_ ?_ ?_ ?_ | refine' x_cons ?_ ?_) | ((with_reducible refine' x_var ?h); case h => exact rfl) | ((with_reducible show _ = _); with_reducible assumption) | ((with_reducible show Res.ok _ _ = _); exact rfl) | ((with_reducible show SRes.ok _ _ _ = _); exact rfl))), S2, (k1.mono (by kts_caught)).trans (k2.mono (by kts_caught))⟩
noncomputable def T0 : List (List Nat) := [[91, 93], [46], [123, 125], [45], [43], [42], [47], [44], [124], [59], [45, 62], [92, 43], [58, 45], [63, 45], [45, 45, 62], [33], [116, 114, 117, 101], [102, 97, 105, 108], [102, 97, 108, 115, 101], [99, 97, 108, 108], [61], [94], [101, 114, 114, 111, 114], [], [101, 110, 100, 95, 111, 102, 95, 102, 105, 108, 101], [115, 121, 115, 116, 101, 109], [36, 86, 65, 82], [99, 97, 116, 99, 104], [116, 104, 114, 111, 119]]
noncomputable def F0 : List (Int × Int) := [([46], 2), ([44], 2), ([59], 2), ([45, 62], 2), ([92, 43], 1), ([58, 45], 2), ([58, 45], 1), ([63, 45], 1), ([45, 45, 62], 2), ([123, 125], 1), ([61], 2), ([94], 2), ([45], 1), ([45], 2), ([43], 2), ([47], 2), ([101, 114, 114, 111, 114], 2), ([36, 86, 65, 82], 1), ([99, 97, 116, 99, 104], 3), ([116, 104, 114, 111, 119], 1), ([33], 0), ([116, 114, 117, 101], 0), ([102, 97, 105, 108], 0), ([102, 97, 108, 115, 101], 0), ([99, 97, 108, 108], 1), ([99, 97, 108, 108], 2), ([99, 97, 108, 108], 3), ([99, 97, 108, 108], 4), ([99, 97, 108, 108], 5), ([99, 97, 108, 108], 6), ([99, 97, 108, 108], 7), ([99, 97, 108, 108], 8)].map fun p : List Nat × Int => (((ix T0 p.1 : Nat) : Int), p.2)
theorem symbols_new (a b c d : AO) : sp_cSymbols [] [a, b, c, d] = .ok (.loc 4) [a, b, c, d, .inst 0 [(0, .loc 5), (1, .loc 6), (2, .loc 7), (3, .loc 8)], .list (T0.map .str), .dictS (num T0 0), .list (F0.map fAV), .dictP (num F0 0)] := by kernel_rfl
end Mine
end
section
open PySem PySem.W PySem.Calls PyProof.Rows
namespace Mine
section
variable {σ q q0 : Store} {j c k : Nat} {l : DL} {fr : Frame} {as avs : List AV} {v : AV} {fs : List (Nat × AV)}
theorem getA {v : Option AO} (h : q[j]? = v) : (σ ++ q)[σ.length + j]? = v := by
 rw [List.getElem?_append_right (Nat.le_add_right _ _), Nat.add_sub_cancel_left]; exact h
theorem setA {o : AO} : (σ ++ q).set (σ.length + j) o = σ ++ q.set j o := by
 rw [List.set_append_right _ _ (Nat.le_add_right _ _), Nat.add_sub_cancel_left]
theorem x_listA (h1 : l fr (σ ++ q0) = .ok as (σ ++ q)) (h2 : as.length ≤ 1000) : dList l fr (σ ++ q0) = .ok (.loc (σ.length + q.length)) (σ ++ (q ++ [.list as])) := by
 rw [x_list h1 h2, List.length_append, List.append_assoc]
theorem x_dictIA : dDictI fr (σ ++ q) = .ok (.loc (σ.length + q.length)) (σ ++ (q ++ [.dictI []])) := by
 rw [x_dictI, List.length_append, List.append_assoc]
noncomputable def okA (c k : Nat) (fs : List (Nat × AV)) : Bool := (c == 0 || c == 2 || c == 3) && fld c k && Nat.blt fs.length 100
theorem setattrA (h : q[j]? = some (.inst c fs)) (ho : okA c k fs = true) : setAttrF k (.loc (σ.length + j)) v fr (σ ++ q) = some (fr, σ ++ q.set j (.inst c (putF k v fs))) := by
 unfold okA at ho
 simp only [Bool.and_eq_true, Bool.or_eq_true, beq_iff_eq, Nat.blt_eq] at ho
 conv => lhs; whnf
 rw [getA h]; refine (if_pos ⟨by rcases ho.1.1 with (h | h) | h <;> simp [h], ho.1.2, ho.2⟩).trans ?_
 rw [setA]
theorem setattrN {q' : Store} (h : q[j]? = some (.inst c fs)) (ho : okA c k fs = true) (hq : q.set j (.inst c (putF k v fs)) = q') : setAttrF k (.loc (σ.length + j)) v fr (σ ++ q) = some (fr, σ ++ q') := by
 rw [← hq]; exact setattrA h ho
theorem x_listN {n : Nat} {q' : Store} (h1 : l fr (σ ++ q0) = .ok as (σ ++ q)) (h2 : as.length ≤ 1000) (hn : q.length = n) (hq : q ++ [.list as] = q') : dList l fr (σ ++ q0) = .ok (.loc (σ.length + n)) (σ ++ q') := by
 rw [← hn, ← hq]; exact x_listA h1 h2
theorem x_dictIN {n : Nat} {q' : Store} (hn : q.length = n) (hq : q ++ [.dictI []] = q') : dDictI fr (σ ++ q) = .ok (.loc (σ.length + n)) (σ ++ q') := by
 rw [← hn, ← hq]; exact x_dictIA
theorem attrA (h : q[j]? = some (.inst c fs)) (hc : (c == 1) = false) (hv : fs.lookup k = some v) : attrF k (.loc (σ.length + j)) (σ ++ q) = .ok v (σ ++ q) := attr_ok (getA h) (by simpa using hc) hv
theorem x_mkA {sp : Spec} {σ2 : Store} (h : sp (.loc (σ.length + q.length) :: avs) (σ ++ (q ++ [.inst c []])) = .ok .none σ2) : mkSpec c sp avs (σ ++ q) = .ok (.loc (σ.length + q.length)) σ2 := by
 unfold mkSpec; rw [List.length_append, List.append_assoc, h]; rfl
theorem x_mkN {sp : Spec} {σ2 q' : Store} {n : Nat} (hn : q.length = n) (hq : q ++ [.inst c []] = q') (h : sp (.loc (σ.length + n) :: avs) (σ ++ q') = .ok .none σ2) : mkSpec c sp avs (σ ++ q) = .ok (.loc (σ.length + n)) σ2 := by
 subst hn hq; exact x_mkA h
theorem x_methA {sp : Spec} {d : DE} {q1 q2 : Store} {σ3 : Store} (h1 : d fr (σ ++ q0) = .ok (.loc (σ.length + j)) (σ ++ q1)) (h2 : q1[j]? = some (.inst k fs)) (h3 : l fr (σ ++ q1) = .ok as (σ ++ q2)) (h4 : sp (.loc (σ.length + j) :: as) (σ ++ q2) = .ok v σ3) : dMeth k sp d l fr (σ ++ q0) = .ok v σ3 := x_meth h1 (getA h2) h3 h4
end
theorem areas_new {σ : Store} {room : Int} : ∃ fs, sp_cAreas [.loc 4, .loc σ.length, .int room] (σ ++ [.list []]) = .ok (.loc (σ.length + 1)) (σ ++ [.list [], .inst 3 fs, .inst 2 [(5, .loc 4), (6, .int room), (7, .loc (σ.length + 3)), (8, .loc (σ.length + 4)), (9, .loc (σ.length + 5)), (10, .int 0), (11, .int 0)], .list [], .list [], .list [], .list [.tup [.int 5, .int 0]], .list [], .dictI []]) ∧
 fs.lookup 5 = some (.loc 4) ∧ fs.lookup 15 = some (.loc (σ.length + 2)) := by
 refine ⟨[(5, .loc 4), (12, .loc σ.length), (6, .int room), (13, .bool true), (14, .int 4096), (15, .loc (σ.length + 2)), (16, .loc (σ.length + 6)), (17, .int 0), (18, .int 0), (19, .int (-1)), (20, .int (-1)), (21, .int (-1)), (22, .str [114, 101, 97, 100]), (23, .int 0), (24, .tup [.int 5, .int 0]), (25, .loc (σ.length + 7)), (26, .loc (σ.length + 8)), (27, .bool false)], x_mkN (q := [.list []]) rfl rfl (x_funcN rfl (by
  unfold d_ar_init
  (repeat' first | with_reducible refine' x_listN ?_ ?_ ?_ ?_ | ((with_reducible show List.length _ = _); (simp only [List.length_cons, List.length_nil, Nat.zero_add, Nat.reduceAdd, List.set_cons_succ, List.set_cons_zero, List.cons_append, List.nil_append, putF, reduceIte, Nat.reduceEqDiff]; try rfl)) | ((with_reducible show (_ ++ _ : Store) = _); (simp only [List.length_cons, List.length_nil, Nat.zero_add, Nat.reduceAdd, List.set_cons_succ, List.set_cons_zero, List.cons_append, List.nil_append, putF, reduceIte, Nat.reduceEqDiff]; try rfl)) | ((with_reducible refine' x_dictIN ?h ?h2); (case h => (simp only [List.length_cons, List.length_nil, Nat.zero_add, Nat.reduceAdd, List.set_cons_succ, List.set_cons_zero, List.cons_append, List.nil_append, putF, reduceIte, Nat.reduceEqDiff]; try rfl)); (case h2 => (simp only [List.length_cons, List.length_nil, Nat.zero_add, Nat.reduceAdd, List.set_cons_succ, List.set_cons_zero, List.cons_append, List.nil_append, putF, reduceIte, Nat.reduceEqDiff]; try rfl))) | ((with_reducible show setAttrF _ _ _ _ _ = _); (refine' setattrN rfl rfl ?h2); (case h2 => (simp only [List.length_cons, List.length_nil, Nat.zero_add, Nat.reduceAdd, List.set_cons_succ, List.set_cons_zero, List.cons_append, List.nil_append, putF, reduceIte, Nat.reduceEqDiff]; try rfl))) | ((with_reducible show attrF _ _ _ = _); exact attrA rfl rfl rfl) | with_reducible refine' x_methA ?_ ?_ ?_ ?_ | ((with_reducible show (_ : Store)[_]? = _); exact rfl) | ((with_reducible show sp_ar_reset _ _ = _); unfold sp_ar_reset d_ar_reset; refine' x_funcN rfl ?_) | ((with_reducible show sp_cStore _ _ = _); unfold sp_cStore; (refine' x_mkN ?h ?h2 ?_); (case h => (simp only [List.length_cons, List.length_nil, Nat.zero_add, Nat.reduceAdd, List.set_cons_succ, List.set_cons_zero, List.cons_append, List.nil_append, putF, reduceIte, Nat.reduceEqDiff]; try rfl)); (case h2 => (simp only [List.length_cons, List.length_nil, Nat.zero_add, Nat.reduceAdd, List.set_cons_succ, List.set_cons_zero, List.cons_append, List.nil_append, putF, reduceIte, Nat.reduceEqDiff]; try rfl))) | ((with_reducible show sp_ce_init _ _ = _); unfold sp_ce_init d_ce_init; refine' x_funcN rfl ?_) | (with_reducible first | exact x_cst | exact x_nil | exact x_snil | refine' x_next ?_ | refine' x_seq ?_ ?_ | refine' x_expr ?_ | refine' x_neg ?_ | refine' x_attr ?_ ?_ | refine' x_fn ?_ ?_ | refine' x_cons ?_ ?_ | refine' x_setattr ?_ ?_ ?_) | ((with_reducible refine' x_var ?h); case h => exact rfl) | ((with_reducible show _ = _); with_reducible assumption) | ((with_reducible show Res.ok _ _ = _); exact rfl) | ((with_reducible show SRes.ok _ _ _ = _); exact rfl) | (exact Nat.le_of_ble_eq_true rfl)))), rfl, rfl⟩
end Mine
end
section
open PySem PySem.W PySem.Calls PyProof.Rows
namespace Mine
theorem x_while_ret {c : DB} {b : DS} {n k : Nat} {fr fr1 : Frame} {σ σ1 σ2 : Store} {v : AV} (hn : n = k + 1) (h1 : c fr σ = .ok true σ1) (h2 : b fr σ1 = .ok (.ret v) fr1 σ2) : sWhile c b n fr σ = .ok (.ret v) fr1 σ2 := by
 subst hn; simp only [sWhile, h1, h2]
noncomputable abbrev cl (t v : Int) : AV := .tup [.int t, .int v]
structure Mach (room : Int) (M : Nat) (H : List (Int × Int)) (σ : Store) : Prop where
 st : σ[M]? = some (.inst 2 [(5, .loc 4), (6, .int room), (7, .loc (M + 1)), (8, .loc (M + 2)), (9, .loc (M + 3)), (10, .int 0), (11, .int 0)])
 hp : σ[M + 1]? = some (.list (H.map fAV))
 lo : 9 ≤ M
 len : H.length ≤ 600
theorem Mach.keep {room : Int} {M : Nat} {H : List (Int × Int)} {σ σ' : Store} {t : List Nat} (S : Mach room M H σ) (k : Keep t σ σ') (h1 : M ∉ t) (h2 : M + 1 ∉ t) : Mach room M H σ' :=
 ⟨k.at_ _ _ h1 S.st, k.at_ _ _ h2 S.hp, S.lo, S.len⟩
section
variable {room : Int} {M : Nat} {H : List (Int × Int)} {σ : Store} {t v : Int}
theorem deref_ok {M : Nat} (h0 : t ≠ 0) (h1 : t ≠ 1) : sp_ce_deref [.loc M, cl t v] σ = .ok (cl t v) σ := by
 exact x_func rfl (by unfold d_ce_deref; exact x_seq (x_while_ret (k := 99999) rfl (x_bval x_cst) (by (repeat' first | ((with_reducible show itemF _ _ _ = _); exact itemF_tup (by decide) (by decide) rfl) | (with_reducible first | exact x_cst | exact x_andret | exact c_eq | refine' x_next ?_ | refine' x_seq ?_ ?_ | refine' x_assign ?_ | refine' x_ret ?_ | refine' x_sif ?_ ?_ | refine' x_bval ?_ | refine' x_cmp ?_ ?_ ?_ | refine' x_item ?_ ?_ ?_) | ((with_reducible refine' x_var ?h); case h => exact rfl) | ((with_reducible refine' if_f ?h ?_); case h => top_raise) | ((with_reducible show _ = _); with_reducible assumption) | ((with_reducible show Res.ok _ _ = _); exact rfl) | ((with_reducible show SRes.ok _ _ _ = _); exact rfl)))) x_andret)
theorem globalise_ok (S : Mach room M H σ) (h0 : t ≠ 0) (h1 : t ≠ 1) : sp_ce_globalise [.loc M, cl t v] σ = .ok (cl t v) σ := by
 have hs := S.st
 exact x_func rfl (by unfold d_ce_globalise; (repeat' first | ((with_reducible show itemF _ _ _ = _); exact itemF_tup (by decide) (by decide) rfl) | ((with_reducible show sp_ce_deref _ _ = _); exact deref_ok h0 h1) | (with_reducible first | exact x_cst | exact x_nil | exact x_snil | exact x_andret | exact c_eq | refine' x_next ?_ | refine' x_seq ?_ ?_ | refine' x_assign ?_ | refine' x_ret ?_ | refine' x_sif ?_ ?_ | refine' x_bval ?_ | refine' x_cmp ?_ ?_ ?_ | refine' x_item ?_ ?_ ?_ | refine' x_meth ?_ ?_ ?_ ?_ | refine' x_cons ?_ ?_) | ((with_reducible refine' x_var ?h); case h => exact rfl) | ((with_reducible refine' if_f ?h ?_); case h => top_raise) | ((with_reducible show _ = _); with_reducible assumption) | ((with_reducible show Res.ok _ _ = _); exact rfl) | ((with_reducible show SRes.ok _ _ _ = _); exact rfl)))
theorem compound_ok : sp_ce_is_compound [.loc M, cl t v] σ = .ok (.bool (decide (t = 2) || decide (t = 3))) σ := by
 exact x_func rfl (by unfold d_ce_is_compound; (repeat' first | with_reducible refine' x_orB ?_ ?_ | ((with_reducible show itemF _ _ _ = _); exact itemF_tup (by decide) (by decide) rfl) | (with_reducible first | exact x_cst | exact x_andret | exact c_eq | refine' x_seq ?_ ?_ | refine' x_ret ?_ | refine' x_cmp ?_ ?_ ?_ | refine' x_item ?_ ?_ ?_) | ((with_reducible refine' x_var ?h); case h => exact rfl) | ((with_reducible show _ = _); with_reducible assumption) | ((with_reducible show Res.ok _ _ = _); exact rfl) | ((with_reducible show SRes.ok _ _ _ = _); exact rfl)))
theorem base3_ok : sp_ce_base [.loc M, cl 3 v] σ = .ok (.int v) σ := by
 exact x_func rfl (by unfold d_ce_base; (repeat' first | ((with_reducible show itemF _ _ _ = _); exact itemF_tup (by decide) (by decide) rfl) | (with_reducible first | exact x_cst | exact x_andret | exact c_eq | refine' x_seq ?_ ?_ | refine' x_ret ?_ | refine' x_sif ?_ ?_ | refine' x_bval ?_ | refine' x_cmp ?_ ?_ ?_ | refine' x_item ?_ ?_ ?_) | ((with_reducible refine' x_var ?h); case h => exact rfl) | ((with_reducible refine' if_t ?h ?_); case h => top_raise) | ((with_reducible show _ = _); with_reducible assumption) | ((with_reducible show Res.ok _ _ = _); exact rfl) | ((with_reducible show SRes.ok _ _ _ = _); exact rfl)))
theorem base2_ok : sp_ce_base [.loc M, cl 2 v] σ = .ok (.int (v + 1)) σ := by
 exact x_func rfl (by unfold d_ce_base; (repeat' first | ((with_reducible show itemF _ _ _ = _); exact itemF_tup (by decide) (by decide) rfl) | (with_reducible first | exact x_cst | exact x_snil | exact x_andret | exact x_add | exact c_eq | refine' x_next ?_ | refine' x_seq ?_ ?_ | refine' x_ret ?_ | refine' x_sif ?_ ?_ | refine' x_bval ?_ | refine' x_bin ?_ ?_ ?_ | refine' x_cmp ?_ ?_ ?_ | refine' x_item ?_ ?_ ?_) | ((with_reducible refine' x_var ?h); case h => exact rfl) | ((with_reducible refine' if_f ?h ?_); case h => top_raise) | ((with_reducible show _ = _); with_reducible assumption) | ((with_reducible show Res.ok _ _ = _); exact rfl) | ((with_reducible show SRes.ok _ _ _ = _); exact rfl)))
theorem arity_ok {T : List (List Nat)} {F : List (Int × Int)} {p : Int × Int} (S : Sym T F σ) (h0 : 0 ≤ v) (hv : F[v.toNat]? = some p) : sp_sy_arity [.loc 4, .int v] σ = .ok (.int p.2) σ := by
 have i0 := attr_ok (k := 2) S.inst (by decide) rfl
 have i1 : itemF (.loc 7) (.int v) σ = .ok (fAV p) σ := itemF_list S.funs h0 (by rw [List.getElem?_map, hv]; rfl) (by rw [List.length_map]; have := S.lF; tb_rel)
 exact x_func rfl (by unfold d_sy_arity; (repeat' first | ((with_reducible show itemF (.tup _) _ _ = _); exact itemF_tup (by decide) (by decide) rfl) | ((with_reducible show itemF (fAV _) _ _ = _); exact itemF_tup (by decide) (by decide) rfl) | (with_reducible first | exact x_cst | exact x_andret | refine' x_seq ?_ ?_ | refine' x_ret ?_ | refine' x_attr ?_ ?_ | refine' x_item ?_ ?_ ?_) | ((with_reducible refine' x_var ?h); case h => exact rfl) | ((with_reducible show _ = _); with_reducible assumption) | ((with_reducible show Res.ok _ _ = _); exact rfl) | ((with_reducible show SRes.ok _ _ _ = _); exact rfl)))
theorem heap_at (S : Mach room M H σ) {a : Int} {p : Int × Int} (h0 : 0 ≤ a) (h : H[a.toNat]? = some p) : itemF (.loc (M + 1)) (.int a) σ = .ok (cl p.1 p.2) σ :=
 itemF_list S.hp h0 (by rw [List.getElem?_map, h]; rfl) (by rw [List.length_map]; have := S.len; tb_rel)
theorem width3_ok (S : Mach room M H σ) : sp_ce_width [.loc M, cl 3 v] σ = .ok (.int 2) σ := by
 exact x_func rfl (by unfold d_ce_width; (repeat' first | ((with_reducible show itemF _ _ _ = _); exact itemF_tup (by decide) (by decide) rfl) | (with_reducible first | exact x_cst | exact x_andret | exact c_eq | refine' x_next ?_ | refine' x_seq ?_ ?_ | refine' x_assign ?_ | refine' x_ret ?_ | refine' x_sif ?_ ?_ | refine' x_bval ?_ | refine' x_cmp ?_ ?_ ?_ | refine' x_item ?_ ?_ ?_) | ((with_reducible refine' x_var ?h); case h => exact rfl) | ((with_reducible refine' if_t ?h ?_); case h => top_raise) | ((with_reducible show _ = _); with_reducible assumption) | ((with_reducible show Res.ok _ _ = _); exact rfl) | ((with_reducible show SRes.ok _ _ _ = _); exact rfl)))
theorem width2_ok {T : List (List Nat)} {F : List (Int × Int)} {f : Int} {p : Int × Int} (S : Mach room M H σ) (S2 : Sym T F σ) (h0 : 0 ≤ v) (h : H[v.toNat]? = some (6, f)) (hf : 0 ≤ f) (hp : F[f.toNat]? = some p) : sp_ce_width [.loc M, cl 2 v] σ = .ok (.int p.2) σ := by
 have i0 := attr_ok (k := 5) S.st (by decide) rfl
 have i1 := attr_ok (k := 7) S.st (by decide) rfl
 have i2 := heap_at S h0 h
 have i3 := arity_ok S2 hf hp
 have i4 := S2.inst
 exact x_func rfl (by unfold d_ce_width; (repeat' first | ((with_reducible show itemF (.tup _) _ _ = _); exact itemF_tup (by decide) (by decide) rfl) | ((with_reducible show itemF (cl _ _) _ _ = _); exact itemF_tup (by decide) (by decide) rfl) | (with_reducible first | exact x_cst | exact x_nil | exact x_snil | exact x_andret | exact c_eq | refine' x_next ?_ | refine' x_seq ?_ ?_ | refine' x_assign ?_ | refine' x_ret ?_ | refine' x_sif ?_ ?_ | refine' x_bval ?_ | refine' x_cmp ?_ ?_ ?_ | refine' x_attr ?_ ?_ | refine' x_item ?_ ?_ ?_ | refine' x_meth ?_ ?_ ?_ ?_ | refine' x_cons ?_ ?_) | ((with_reducible refine' x_var ?h); case h => exact rfl) | ((with_reducible refine' if_t ?h ?_); case h => top_raise) | ((with_reducible refine' if_f ?h ?_); case h => top_raise) | ((with_reducible show _ = _); with_reducible assumption) | ((with_reducible show Res.ok _ _ = _); exact rfl) | ((with_reducible show SRes.ok _ _ _ = _); exact rfl)))
theorem functor2_ok {f : Int} (S : Mach room M H σ) (h0 : 0 ≤ v) (h : H[v.toNat]? = some (6, f)) : sp_ce_functor_of [.loc M, cl 2 v] σ = .ok (.int f) σ := by
 have i1 := attr_ok (k := 7) S.st (by decide) rfl
 have i2 := heap_at S h0 h
 exact x_func rfl (by unfold d_ce_functor_of; (repeat' first | ((with_reducible show itemF (.tup _) _ _ = _); exact itemF_tup (by decide) (by decide) rfl) | ((with_reducible show itemF (cl _ _) _ _ = _); exact itemF_tup (by decide) (by decide) rfl) | (with_reducible first | exact x_cst | exact x_andret | exact c_eq | refine' x_next ?_ | refine' x_seq ?_ ?_ | refine' x_assign ?_ | refine' x_ret ?_ | refine' x_sif ?_ ?_ | refine' x_bval ?_ | refine' x_cmp ?_ ?_ ?_ | refine' x_attr ?_ ?_ | refine' x_item ?_ ?_ ?_) | ((with_reducible refine' x_var ?h); case h => exact rfl) | ((with_reducible refine' if_t ?h ?_); case h => top_raise) | ((with_reducible show _ = _); with_reducible assumption) | ((with_reducible show Res.ok _ _ = _); exact rfl) | ((with_reducible show SRes.ok _ _ _ = _); exact rfl)))
theorem functor3_ok (S : Mach room M H σ) : sp_ce_functor_of [.loc M, cl 3 v] σ = .ok (.int 0) σ := by
 exact x_func rfl (by unfold d_ce_functor_of; (repeat' first | ((with_reducible show itemF _ _ _ = _); exact itemF_tup (by decide) (by decide) rfl) | (with_reducible first | exact x_cst | exact x_snil | exact x_andret | exact c_eq | refine' x_next ?_ | refine' x_seq ?_ ?_ | refine' x_assign ?_ | refine' x_ret ?_ | refine' x_sif ?_ ?_ | refine' x_bval ?_ | refine' x_cmp ?_ ?_ ?_ | refine' x_item ?_ ?_ ?_) | ((with_reducible refine' x_var ?h); case h => exact rfl) | ((with_reducible refine' if_t ?h ?_); case h => top_raise) | ((with_reducible refine' if_f ?h ?_); case h => top_raise) | ((with_reducible show _ = _); with_reducible assumption) | ((with_reducible show Res.ok _ _ = _); exact rfl) | ((with_reducible show SRes.ok _ _ _ = _); exact rfl)))
end
end Mine
end
section
open PySem PySem.W PySem.Calls PyProof.Rows
namespace Mine
noncomputable def fresh (n : Nat) : Nat → List (Int × Int)
 | 0 => []
 | k + 1 => fresh n k ++ [(0, (n : Int) + k)]
theorem fresh_len {n : Nat} : ∀ k, (fresh n k).length = k
 | 0 => rfl
 | k + 1 => by show (fresh n k ++ [_]).length = _; rw [List.length_append, fresh_len k]; rfl
section
variable {room : Int} {M : Nat} {H : List (Int × Int)} {σ : Store} {p : Int × Int}
theorem Mach.app (S : Mach room M H σ) (h : H.length < 600) : Mach room M (H ++ [p]) (σ.set (M + 1) (.list (H.map fAV ++ [fAV p]))) :=
 ⟨get_set (Nat.succ_ne_self M) S.st, by rw [List.map_append]; exact get_self S.hp, S.lo, by rw [List.length_append]; exact h⟩
theorem Mach.put {a : Nat} (S : Mach room M H σ) : Mach room M (H.set a p) (σ.set (M + 1) (.list ((H.map fAV).set a (fAV p)))) :=
 ⟨get_set (Nat.succ_ne_self M) S.st, by rw [List.map_set]; exact get_self S.hp, S.lo, by rw [List.length_set]; exact S.len⟩
theorem heap_set (S : Mach room M H σ) {a : Int} {fr : Frame} (h0 : 0 ≤ a) (h : a < H.length) : setItemF (.loc (M + 1)) (.int a) (fAV p) fr σ = some (fr, σ.set (M + 1) (.list ((H.map fAV).set a.toNat (fAV p)))) :=
 setItem_list S.hp h0 (by rw [List.length_map]; exact h) (by rw [List.length_map]; have := S.len; tb_rel)
theorem reserve_ok {c : Int} (S : Mach room M H σ) (h0 : 0 ≤ c) (h1 : H.length + c ≤ 600) (h2 : H.length + c ≤ room) : ∃ σ', sp_ce_reserve [.loc M, .int c] σ = .ok (.int H.length) σ' ∧ Mach room M (H ++ fresh H.length c.toNat) σ' ∧ Keep [M + 1] σ σ' := by
 obtain ⟨fr', σ', hf, x, hfr, S', k'⟩ := forL_rule (chk := fun _ => true) (g := (gName 3)) (body := (SQ (sExpr (dMethB .list spAppend (dAttr 7 (DV 0)) (LC (dTup (LC (DC (.int (0))) (LC (dBin .Add (DV 2) (DV 3)) LN))) LN))) SN))
  (fun j fr σ' => ∃ x, fr = [some (.loc M), some (.int c), some (.int H.length), x] ∧ Mach room M (H ++ fresh H.length j) σ' ∧ Keep [M + 1] σ σ')
  (itemsR 0 1 c.toNat) 0 (fr := [some (.loc M), some (.int c), some (.int H.length), none]) (σ := σ) ⟨_, rfl, by rw [show fresh H.length 0 = [] from rfl, List.append_nil]; exact S, Keep.refl⟩ (by
   rintro j y fr σ2 hj ⟨x, rfl, S2, k2⟩
   obtain ⟨hk, rfl⟩ := items0_get hj
   rw [Nat.zero_add] at *
   have hl : (H ++ fresh H.length j).length < 600 := by rw [List.length_append, fresh_len]; tb_rel
   have i1 := attr_ok (k := 7) S2.st (by decide) rfl
   have kl := kind_list S2.hp
   have ap := append_list (v := fAV (0, (H.length : Int) + j)) S2.hp (by rw [List.length_map]; tb_rel)
   refine ⟨_, rfl, [some (.loc M), some (.int c), some (.int H.length), some (.int j)], _, .inl (x_seq (x_expr (x_methB (x_attr (x_var rfl) i1) kl (x_cons (x_tup (x_cons x_cst (x_cons (x_bin (x_var rfl) (x_var rfl) x_add) x_nil)) (Nat.le_of_ble_eq_true rfl)) x_nil) ap)) (x_next x_snil)), rfl, _, rfl, ?_, k2.trans (Keep.set (by kts_caught))⟩
   have := S2.app (p := (0, (H.length : Int) + j)) hl
   rw [List.append_assoc] at this
   exact this)
 rw [itemsR_len, Nat.zero_add] at S'
 subst hfr
 have i1 := attr_ok (k := 7) S.st (by decide) rfl
 have i2 := attr_ok (k := 6) S.st (by decide) rfl
 have ln := len_list S.hp (by rw [List.length_map]; have := S.len; tb_rel)
 rw [List.length_map] at ln
 have hr := range1 (b := c) (by tb_rel) (by tb_rel)
 exact ⟨σ', x_func rfl (by unfold d_ce_reserve; (repeat' first | with_reducible refine' x_forR ?_ ?_ ?_ | ((with_reducible show sForL _ _ _ _ _ _ = _); exact hf) | (with_reducible first | exact x_cst | exact x_nil | exact x_snil | exact x_andret | exact x_add | exact c_gt | refine' x_next ?_ | refine' x_seq ?_ ?_ | refine' x_assign ?_ | refine' x_ret ?_ | refine' x_expr ?_ | refine' x_sif ?_ ?_ | refine' x_bval ?_ | refine' x_bin ?_ ?_ ?_ | refine' x_cmp ?_ ?_ ?_ | refine' x_attr ?_ ?_ | refine' x_tup ?_ ?_ | refine' x_call ?_ ?_ | refine' x_methB ?_ ?_ ?_ ?_ | refine' x_cons ?_ ?_) | ((with_reducible refine' x_var ?h); case h => exact rfl) | ((with_reducible refine' if_f ?h ?_); case h => top_raise) | ((with_reducible show _ = _); with_reducible assumption) | ((with_reducible show Res.ok _ _ = _); exact rfl) | ((with_reducible show SRes.ok _ _ _ = _); exact rfl) | (exact Nat.le_of_ble_eq_true rfl))), S', k'⟩
end
end Mine
end
section
open PySem PySem.W PySem.Calls PyProof.Rows
namespace Mine
theorem set_end {α : Type} {H J : List α} {x y : α} : (H ++ x :: J).set H.length y = H ++ y :: J := by
 rw [List.set_append_right _ _ (Nat.le_refl _), Nat.sub_self]; rfl
theorem put_next {α : Type} : ∀ {cs J : List α} {j : Nat} {c : α}, cs[j]? = some c → cs.length = J.length → (cs.take j ++ J.drop j).set j c = cs.take (j + 1) ++ J.drop (j + 1)
 | d :: cs, e :: J, 0, c, h, _ => by cases h; rfl
 | d :: cs, e :: J, j + 1, c, h, hl => by
  show d :: (cs.take j ++ J.drop j).set j c = d :: (cs.take (j + 1) ++ J.drop (j + 1))
  rw [put_next (cs := cs) (J := J) (j := j) (by simpa using h) (by simpa using hl)]
 | [], _, _, _, h, _ => by simp at h
 | _ :: _, [], _, _, _, hl => by simp at hl
section
variable {room : Int} {M : Nat} {H : List (Int × Int)} {σ : Store} {T : List (List Nat)} {F : List (Int × Int)}
theorem block_ok {f : Int} {p : Int × Int} {c : Nat} (S : Mach room M H σ) (S2 : Sym T F σ) (hf : 0 < f) (hp : F[f.toNat]? = some p) (hc : p.2 = (c : Int)) (h1 : H.length + c + 1 ≤ 600) (h2 : (H.length : Int) + c + 1 ≤ room) :
 ∃ σ' J, sp_ce_new_block [.loc M, .int f] σ = .ok (cl 2 H.length) σ' ∧ J.length = c ∧ Mach room M (H ++ (6, f) :: J) σ' ∧ Keep [M + 1] σ σ' := by
 have i0 := attr_ok (k := 5) S.st (by decide) rfl
 have i3 := arity_ok S2 (by tb_rel) hp
 rw [hc] at i3
 have i4 := S2.inst
 have i5 := S.st
 obtain ⟨σ1, e1, S1, k1⟩ := reserve_ok (c := 1 + (c : Int)) S (by tb_rel) (by tb_rel) (by tb_rel)
 have i6 := attr_ok (k := 7) S1.st (by decide) rfl
 rw [show (1 + (c : Int)).toNat = c + 1 by tb_rel] at S1
 obtain ⟨x, J, hx⟩ : ∃ x J, fresh H.length (c + 1) = x :: J := by
  cases h : fresh H.length (c + 1) with
  | nil => have := fresh_len (n := H.length) (c + 1); rw [h] at this; cases this
  | cons x J => exact ⟨x, J, rfl⟩
 have hJ : J.length = c := by have := fresh_len (n := H.length) (c + 1); rw [hx] at this; exact Nat.succ.inj this
 rw [hx] at S1
 have st : ∀ fr, setItemF (.loc (M + 1)) (.int (H.length : Int)) (fAV (6, f)) fr σ1 = some (fr, σ1.set (M + 1) (.list (((H ++ x :: J).map fAV).set H.length (fAV (6, f))))) := fun fr => heap_set (p := (6, f)) (fr := fr) (a := (H.length : Int)) S1 (by tb_rel) (by rw [List.length_append, List.length_cons]; tb_rel)
 have S3 := S1.put (p := (6, f)) (a := H.length)
 rw [set_end] at S3
 exact ⟨_, J, x_func rfl (by unfold d_ce_new_block; (repeat' first | ((with_reducible show setItemF _ _ _ _ _ = _); exact st _) | (with_reducible first | exact x_cst | exact x_nil | exact x_snil | exact x_andret | exact x_add | exact c_eq | refine' x_next ?_ | refine' x_seq ?_ ?_ | refine' x_assign ?_ | refine' x_ret ?_ | refine' x_sif ?_ ?_ | refine' x_bval ?_ | refine' x_bin ?_ ?_ ?_ | refine' x_cmp ?_ ?_ ?_ | refine' x_attr ?_ ?_ | refine' x_tup ?_ ?_ | refine' x_meth ?_ ?_ ?_ ?_ | refine' x_cons ?_ ?_ | refine' x_setitem ?_ ?_ ?_ ?_) | ((with_reducible refine' x_var ?h); case h => exact rfl) | ((with_reducible refine' if_f ?h ?_); case h => top_raise) | ((with_reducible show _ = _); with_reducible assumption) | ((with_reducible show Res.ok _ _ = _); exact rfl) | ((with_reducible show SRes.ok _ _ _ = _); exact rfl) | (exact Nat.le_of_ble_eq_true rfl))), hJ, S3, k1.trans (Keep.set (by kts_caught))⟩
end
end Mine
end
section
open PySem PySem.W PySem.Calls PyProof.Rows
namespace Mine
open Classical in
theorem chk_ok {n : Nat} {xs : List AV} {σ : Store} (h : σ[n]? = some (.list xs)) : chkL n xs σ = true := by unfold chkL; exact decide_eq_true h
theorem iter_list {n : Nat} {xs : List AV} {g : AV → Frame → Store → GRes} {b : DS} {fr : Frame} {σ : Store} {R : SRes} (h : σ[n]? = some (.list xs)) (k : sForL (chkL n xs) g b xs fr σ = R) : sIter g b (.loc n) fr σ = R := by
 simp only [sIter, h]; exact k
theorem map_get {cs : List (Int × Int)} {k : Nat} {x : AV} (h : (cs.map fAV)[k]? = some x) : ∃ p, cs[k]? = some p ∧ x = fAV p := by
 rw [List.getElem?_map] at h
 obtain ⟨p, h1, h2⟩ := Option.map_eq_some_iff.mp h
 exact ⟨p, h1, h2.symm⟩
theorem take_next {α : Type} {cs : List α} {j : Nat} {p : α} (h : cs[j]? = some p) : cs.take (j + 1) = cs.take j ++ [p] := by
 rw [List.take_add_one, h]; rfl
section
variable {room : Int} {M : Nat} {H : List (Int × Int)} {σ : Store} {T : List (List Nat)} {F : List (Int × Int)}
theorem struct_glob {f : Int} {q w : Nat} {cs : List (Int × Int)} (S : Mach room M H σ) (hq : σ[q]? = some (.list (cs.map fAV))) (hw : σ[w]? = some (.list [])) (hqw : q ≠ w) (hwM : w ≠ M ∧ w ≠ M + 1) (ht : ∀ p ∈ cs, p.1 ≠ 0 ∧ p.1 ≠ 1) (hl : cs.length ≤ 300) : ∃ x σ',
 sForL (chkL q (cs.map fAV)) (g := (gName 4)) (body := (SQ (sExpr (dMethB .list spAppend (DV 3) (LC (dMeth 2 sp_ce_globalise (DV 0) (LC (DV 4) LN)) LN))) SN)) (cs.map fAV) [some (.loc M), some (.int f), some (.loc q), some (.loc w), none, none, none, none] σ = .ok .next [some (.loc M), some (.int f), some (.loc q), some (.loc w), x, none, none, none] σ' ∧
  σ'[w]? = some (.list (cs.map fAV)) ∧ Keep [w] σ σ' := by
 obtain ⟨fr', σ', hf, x, hfr, h', k'⟩ := forL_rule (chk := chkL q (cs.map fAV)) (g := (gName 4)) (body := (SQ (sExpr (dMethB .list spAppend (DV 3) (LC (dMeth 2 sp_ce_globalise (DV 0) (LC (DV 4) LN)) LN))) SN))
  (fun j fr σ' => ∃ x, fr = [some (.loc M), some (.int f), some (.loc q), some (.loc w), x, none, none, none] ∧ σ'[w]? = some (.list ((cs.take j).map fAV)) ∧ Keep [w] σ σ')
  (cs.map fAV) 0 (fr := [some (.loc M), some (.int f), some (.loc q), some (.loc w), none, none, none, none]) (σ := σ) ⟨_, rfl, hw, Keep.refl⟩ (by
   rintro j y fr σ2 hj ⟨x, rfl, h2, k2⟩
   obtain ⟨p, hp, rfl⟩ := map_get hj
   rw [Nat.zero_add] at *
   have S2 := S.keep k2 (by simpa using hwM.1.symm) (by simpa using hwM.2.symm)
   have st := S2.st
   have kl := kind_list h2
   have g := globalise_ok (v := p.2) S2 (ht p (List.mem_of_getElem? hp)).1 (ht p (List.mem_of_getElem? hp)).2
   have ap := append_list (v := fAV p) h2 (by rw [List.length_map, List.length_take]; tb_rel)
   refine ⟨_, rfl, [some (.loc M), some (.int f), some (.loc q), some (.loc w), some (fAV p), none, none, none], _, .inl (x_seq (x_expr (x_methB (x_var rfl) kl (x_cons (x_meth (x_var rfl) st (x_cons (x_var rfl) x_nil) g) x_nil) ap)) (x_next x_snil)), ?_, _, rfl, ?_, k2.trans (Keep.set (by kts_caught))⟩
   · exact chk_ok (get_set hqw.symm (k2.at_ _ _ (by simpa using hqw) hq))
   · rw [take_next hp, List.map_append]; exact get_self h2)
 rw [List.length_map, Nat.zero_add, List.take_length] at h'
 subst hfr
 exact ⟨_, _, hf, h', k'⟩
theorem struct_put {f : Int} {q w n : Nat} {mk : AV} {cs J : List (Int × Int)} (S : Mach room M (H ++ (6, f) :: J) σ) (hn : n = H.length) (hJ : cs.length = J.length) (hw : σ[w]? = some (.list (cs.map fAV))) (hwM : w ≠ M ∧ w ≠ M + 1) {x : Option AV} : ∃ y z σ',
 sForL (chkL w (cs.map fAV)) (g := (gName 7)) (body := (SQ (sSetItem (DV 7) (dAttr 7 (DV 0)) (DV 6)) (SQ (sAug 6 (DC (.int 1))) SN))) (cs.map fAV) [some (.loc M), some (.int f), some (.loc q), some (.loc w), x, some mk, some (.int ((n : Int) + 1)), none] σ = .ok .next [some (.loc M), some (.int f), some (.loc q), some (.loc w), x, some mk, y, z] σ' ∧
  Mach room M (H ++ (6, f) :: cs) σ' ∧ Keep [M + 1] σ σ' := by
 subst hn
 obtain ⟨fr', σ', hf, z, hfr, S', k'⟩ := forL_rule (chk := chkL w (cs.map fAV)) (g := (gName 7)) (body := (SQ (sSetItem (DV 7) (dAttr 7 (DV 0)) (DV 6)) (SQ (sAug 6 (DC (.int 1))) SN)))
  (fun j fr σ' => ∃ z, fr = [some (.loc M), some (.int f), some (.loc q), some (.loc w), x, some mk, some (.int ((H.length : Int) + 1 + j)), z] ∧ Mach room M (H ++ (6, f) :: (cs.take j ++ J.drop j)) σ' ∧ Keep [M + 1] σ σ')
  (cs.map fAV) 0 (fr := [some (.loc M), some (.int f), some (.loc q), some (.loc w), x, some mk, some (.int ((H.length : Int) + 1)), none]) (σ := σ) ⟨none, by simp, S, Keep.refl⟩ (by
   rintro j y fr σ2 hj ⟨z, rfl, S2, k2⟩
   obtain ⟨p, hp, rfl⟩ := map_get hj
   rw [Nat.zero_add] at *
   have hj' : j < cs.length := (List.getElem?_eq_some_iff.mp hp).1
   have i1 := attr_ok (k := 7) S2.st (by decide) rfl
   have hlen : (H ++ (6, f) :: (cs.take j ++ J.drop j)).length = H.length + 1 + cs.length := by
    rw [List.length_append, List.length_cons, List.length_append, List.length_take, List.length_drop]; tb_rel
   have st := fun fr => heap_set (p := p) (fr := fr) (a := (H.length : Int) + 1 + j) S2 (by tb_rel) (by rw [hlen]; tb_rel)
   have S3 := S2.put (p := p) (a := H.length + 1 + j)
   rw [List.set_append_right _ _ (by tb_rel), show H.length + 1 + j - H.length = j + 1 by tb_rel] at S3
   rw [List.set_cons_succ, put_next hp hJ] at S3
   rw [show ((H.length : Int) + 1 + j).toNat = H.length + 1 + j by tb_rel] at st
   refine ⟨_, rfl, [some (.loc M), some (.int f), some (.loc q), some (.loc w), x, some mk, some (.int ((H.length : Int) + 1 + j + 1)), some (fAV p)], _, .inl (x_seq (x_setitem (x_var rfl) (x_attr (x_var rfl) i1) (x_var rfl) (st _)) (x_next (x_seq (x_aug rfl x_cst) (x_next x_snil)))), ?_, _, by rw [show (H.length : Int) + 1 + ((j + 1 : Nat) : Int) = (H.length : Int) + 1 + j + 1 by tb_rel], S3, k2.trans (Keep.set (by kts_caught))⟩
   exact chk_ok (get_set hwM.2.symm (k2.at_ _ _ (by simpa using hwM.2) hw)))
 rw [List.length_map, Nat.zero_add, List.take_length, hJ, List.drop_length, List.append_nil] at S'
 subst hfr
 exact ⟨_, _, _, hf, S', k'⟩
end
end Mine
end
section
open PySem PySem.W PySem.Calls PyProof.Rows
namespace Mine
section
variable {room : Int} {M : Nat} {H : List (Int × Int)} {σ : Store} {T : List (List Nat)} {F : List (Int × Int)}
theorem Mach.lt (S : Mach room M H σ) : M + 1 < σ.length := (List.getElem?_eq_some_iff.mp S.hp).1
theorem struct_ok {f : Int} {p : Int × Int} {q : Nat} {cs : List (Int × Int)} (S : Mach room M H σ) (S2 : Sym T F σ) (hf : 0 < f) (hp : F[f.toNat]? = some p) (hc : p.2 = (cs.length : Int)) (h0 : 0 < cs.length) (hl : cs.length ≤ 100) (h1 : H.length + cs.length + 1 ≤ 600) (h2 : (H.length : Int) + cs.length + 1 ≤ room)
 (hq : σ[q]? = some (.list (cs.map fAV))) (hqM : q ≠ M + 1) (ht : ∀ p ∈ cs, p.1 ≠ 0 ∧ p.1 ≠ 1) : ∃ σ', sp_st_new_struct [.loc M, .int f, .loc q] σ = .ok (cl 2 H.length) σ' ∧ Mach room M (H ++ (6, f) :: cs) σ' ∧ Keep [M + 1] σ σ' := by
 have lM := S.lt
 have lq : q < σ.length := (List.getElem?_eq_some_iff.mp hq).1
 have ka : Keep ([] : List Nat) σ (σ ++ [.list []]) := Keep.add
 have hq1 := ka.at_ q _ (by kts_caught) hq
 obtain ⟨x, σ2, hf1, hw2, k2⟩ := struct_glob (f := f) (q := q) (w := σ.length) (cs := cs) (S.keep ka (by kts_caught) (by kts_caught)) hq1 getL_new (by tb_rel) ⟨by tb_rel, by tb_rel⟩ ht (by tb_rel)
 have k02 : Keep [σ.length] σ σ2 := (ka.mono (by kts_caught)).trans k2
 have Sm2 := S.keep k02 (by kts_caught) (by kts_caught)
 have Sy2 : Sym T F σ2 := S2.keep k02 (by simp; have := S.lo; tb_rel)
 obtain ⟨σ3, J, e3, hJ, S3, k3⟩ := block_ok (f := f) (p := p) (c := cs.length) Sm2 Sy2 hf hp hc (by tb_rel) (by tb_rel)
 have hw3 := k3.at_ σ.length _ (by kts_caught) hw2
 obtain ⟨y, z, σ4, hf2, S4, k4⟩ := struct_put (q := q) (w := σ.length) (n := H.length) (mk := cl 2 H.length) (x := x) S3 rfl hJ.symm hw3 ⟨by tb_rel, by tb_rel⟩
 have ln := len_list hq (by rw [List.length_map]; tb_rel)
 rw [List.length_map] at ln
 have st2 := Sm2.st
 have st3 := S3.st
 have b3 := base2_ok (M := M) (σ := σ3) (v := (H.length : Int))
 have hne : ¬ ((cs.length : Int) = 0) := by tb_rel
 refine ⟨σ4, x_func rfl (by unfold d_st_new_struct; (repeat' first | with_reducible refine' x_for ?_ ?_ | ((with_reducible show sIter _ _ _ _ _ = _); first | exact iter_list hq1 hf1 | exact iter_list hw3 hf2) | (with_reducible first | exact x_cst | exact x_nil | exact x_snil | exact x_andret | exact c_eq | refine' x_next ?_ | refine' x_seq ?_ ?_ | refine' x_assign ?_ | refine' x_ret ?_ | refine' x_sif ?_ ?_ | refine' x_bval ?_ | refine' x_cmp ?_ ?_ ?_ | refine' x_list ?_ ?_ | refine' x_call ?_ ?_ | refine' x_meth ?_ ?_ ?_ ?_ | refine' x_cons ?_ ?_) | ((with_reducible refine' x_var ?h); case h => exact rfl) | ((with_reducible refine' if_f ?h ?_); case h => top_raise) | ((with_reducible show _ = _); with_reducible assumption) | ((with_reducible show Res.ok _ _ = _); exact rfl) | ((with_reducible show SRes.ok _ _ _ = _); exact rfl) | (exact Nat.le_of_ble_eq_true rfl))), S4, ?_⟩
 exact ⟨Nat.le_trans k02.len (Nat.le_trans k3.len k4.len), fun i o hi e => by
  have li : i < σ.length := (List.getElem?_eq_some_iff.mp e).1
  exact k4.at_ i o hi (k3.at_ i o hi (k02.at_ i o (by kts_caught) e))⟩
end
end Mine
end
section
open PySem PySem.W PySem.Calls PyProof.Rows
namespace Mine
noncomputable def lst (n : Int) : List (Int × Int) → List (Int × Int)
 | [] => []
 | c :: r => c :: (3, n + 2) :: lst (n + 2) r
noncomputable def lstE (n : Int) (e : Int × Int) : List (Int × Int) → List (Int × Int)
 | [] => []
 | [c] => [c, e]
 | c :: d :: r => c :: (3, n + 2) :: lstE (n + 2) e (d :: r)
theorem lst_len {n : Int} : ∀ cs, (lst n cs).length = 2 * cs.length
 | [] => rfl
 | c :: r => by show (lst (n + 2) r).length + 2 = _; rw [lst_len r, List.length_cons]; tb_rel
theorem lst_app {c : Int × Int} : ∀ (n : Int) (cs : List (Int × Int)), lst n (cs ++ [c]) = lst n cs ++ [c, (3, n + 2 * cs.length + 2)]
 | n, [] => by show [c, (3, n + 2)] = [c, (3, n + 2 * ((0 : Nat) : Int) + 2)]; rw [show n + 2 * ((0 : Nat) : Int) + 2 = n + 2 by tb_rel]
 | n, d :: r => by
  show d :: (3, n + 2) :: lst (n + 2) (r ++ [c]) = d :: (3, n + 2) :: (lst (n + 2) r ++ [c, (3, n + 2 * ((r.length + 1 : Nat) : Int) + 2)])
  rw [lst_app (n + 2) r, show n + 2 + 2 * (r.length : Int) + 2 = n + 2 * ((r.length + 1 : Nat) : Int) + 2 by tb_rel]
theorem lst_end {e : Int × Int} : ∀ (n : Int) (cs : List (Int × Int)), cs ≠ [] → (lst n cs).set (2 * cs.length - 1) e = lstE n e cs
 | n, [], h => absurd rfl h
 | n, [c], _ => rfl
 | n, c :: d :: r, _ => by
  show (c :: (3, n + 2) :: lst (n + 2) (d :: r)).set (2 * ((d :: r).length + 1) - 1) e = c :: (3, n + 2) :: lstE (n + 2) e (d :: r)
  rw [show 2 * ((d :: r).length + 1) - 1 = (2 * (d :: r).length - 1) + 1 + 1 by rw [List.length_cons]; tb_rel, List.set_cons_succ, List.set_cons_succ, lst_end (n + 2) (d :: r) (by kts_caught)]
section
variable {room : Int} {M : Nat} {H : List (Int × Int)} {σ : Store} {T : List (List Nat)} {F : List (Int × Int)}
theorem list_glob {e : AV} {q w : Nat} {cs : List (Int × Int)} (S : Mach room M H σ) (hq : σ[q]? = some (.list (cs.map fAV))) (hw : σ[w]? = some (.list [])) (hqw : q ≠ w) (hwM : w ≠ M ∧ w ≠ M + 1) (ht : ∀ p ∈ cs, p.1 ≠ 0 ∧ p.1 ≠ 1) (hl : cs.length ≤ 300) : ∃ x σ',
 sForL (chkL q (cs.map fAV)) (g := (gName 5)) (body := (SQ (sExpr (dMethB .list spAppend (DV 4) (LC (dMeth 2 sp_ce_globalise (DV 0) (LC (DV 5) LN)) LN))) SN)) (cs.map fAV) [some (.loc M), some (.loc q), some .none, some e, some (.loc w), none, none, none, none] σ = .ok .next [some (.loc M), some (.loc q), some .none, some e, some (.loc w), x, none, none, none] σ' ∧
  σ'[w]? = some (.list (cs.map fAV)) ∧ Keep [w] σ σ' := by
 obtain ⟨fr', σ', hf, x, hfr, h', k'⟩ := forL_rule (chk := chkL q (cs.map fAV)) (g := (gName 5)) (body := (SQ (sExpr (dMethB .list spAppend (DV 4) (LC (dMeth 2 sp_ce_globalise (DV 0) (LC (DV 5) LN)) LN))) SN))
  (fun j fr σ' => ∃ x, fr = [some (.loc M), some (.loc q), some .none, some e, some (.loc w), x, none, none, none] ∧ σ'[w]? = some (.list ((cs.take j).map fAV)) ∧ Keep [w] σ σ')
  (cs.map fAV) 0 (fr := [some (.loc M), some (.loc q), some .none, some e, some (.loc w), none, none, none, none]) (σ := σ) ⟨_, rfl, hw, Keep.refl⟩ (by
   rintro j y fr σ2 hj ⟨x, rfl, h2, k2⟩
   obtain ⟨p, hp, rfl⟩ := map_get hj
   rw [Nat.zero_add] at *
   have S2 := S.keep k2 (by simpa using hwM.1.symm) (by simpa using hwM.2.symm)
   have st := S2.st
   have kl := kind_list h2
   have g := globalise_ok (v := p.2) S2 (ht p (List.mem_of_getElem? hp)).1 (ht p (List.mem_of_getElem? hp)).2
   have ap := append_list (v := fAV p) h2 (by rw [List.length_map, List.length_take]; tb_rel)
   refine ⟨_, rfl, [some (.loc M), some (.loc q), some .none, some e, some (.loc w), some (fAV p), none, none, none], _, .inl (x_seq (x_expr (x_methB (x_var rfl) kl (x_cons (x_meth (x_var rfl) st (x_cons (x_var rfl) x_nil) g) x_nil) ap)) (x_next x_snil)), ?_, _, rfl, ?_, k2.trans (Keep.set (by kts_caught))⟩
   · exact chk_ok (get_set hqw.symm (k2.at_ _ _ (by simpa using hqw) hq))
   · rw [take_next hp, List.map_append]; exact get_self h2)
 rw [List.length_map, Nat.zero_add, List.take_length] at h'
 subst hfr
 exact ⟨_, _, hf, h', k'⟩
theorem list_put {e : AV} {q w : Nat} {cs J : List (Int × Int)} (S : Mach room M (H ++ J) σ) (hJ : J.length = 2 * cs.length) (hw : σ[w]? = some (.list (cs.map fAV))) (hwM : w ≠ M ∧ w ≠ M + 1) {x : Option AV} : ∃ z σ',
 sForL (chkL w (cs.map fAV)) (g := (gName 8)) (body := (SQ (sSetItem (DV 8) (dAttr 7 (DV 0)) (DV 7)) (SQ (sSetItem (dTup (LC (DC (.int (3))) (LC (dBin .Add (DV 7) (DC (.int 2))) LN))) (dAttr 7 (DV 0)) (dBin .Add (DV 7) (DC (.int 1)))) (SQ (sAug 7 (DC (.int 2))) SN)))) (cs.map fAV) [some (.loc M), some (.loc q), some .none, some e, some (.loc w), x, some (.int H.length), some (.int H.length), none] σ = .ok .next [some (.loc M), some (.loc q), some .none, some e, some (.loc w), x, some (.int H.length), some (.int ((H.length : Int) + 2 * cs.length)), z] σ' ∧
  Mach room M (H ++ lst H.length cs) σ' ∧ Keep [M + 1] σ σ' := by
 obtain ⟨fr', σ', hf, z, hfr, S', k'⟩ := forL_rule (chk := chkL w (cs.map fAV)) (g := (gName 8)) (body := (SQ (sSetItem (DV 8) (dAttr 7 (DV 0)) (DV 7)) (SQ (sSetItem (dTup (LC (DC (.int (3))) (LC (dBin .Add (DV 7) (DC (.int 2))) LN))) (dAttr 7 (DV 0)) (dBin .Add (DV 7) (DC (.int 1)))) (SQ (sAug 7 (DC (.int 2))) SN))))
  (fun j fr σ' => ∃ z, fr = [some (.loc M), some (.loc q), some .none, some e, some (.loc w), x, some (.int H.length), some (.int ((H.length : Int) + 2 * (j : Int))), z] ∧ Mach room M (H ++ (lst H.length (cs.take j) ++ J.drop (2 * j))) σ' ∧ Keep [M + 1] σ σ')
  (cs.map fAV) 0 (fr := [some (.loc M), some (.loc q), some .none, some e, some (.loc w), x, some (.int H.length), some (.int H.length), none]) (σ := σ) ⟨none, by simp, S, Keep.refl⟩ (by
   rintro j y fr σ2 hj ⟨z, rfl, S2, k2⟩
   obtain ⟨p, hp, rfl⟩ := map_get hj
   rw [Nat.zero_add] at *
   have hj' : j < cs.length := (List.getElem?_eq_some_iff.mp hp).1
   obtain ⟨u, v, hd⟩ : ∃ u v, J.drop (2 * j) = u :: v :: J.drop (2 * (j + 1)) := by
    refine ⟨J[2 * j], J[2 * j + 1], ?_⟩
    rw [List.drop_eq_getElem_cons (by tb_rel), List.drop_eq_getElem_cons (i := 2 * j + 1) (by tb_rel)]; rfl
   have hA : (lst H.length (cs.take j)).length = 2 * j := by rw [lst_len, List.length_take]; tb_rel
   rw [hd, ← List.append_assoc] at S2
   have hn : (H ++ lst H.length (cs.take j)).length = H.length + 2 * j := by rw [List.length_append, hA]
   have i1 := attr_ok (k := 7) S2.st (by decide) rfl
   have st1 := fun fr => heap_set (p := p) (fr := fr) (a := (H.length : Int) + 2 * j) S2 (by tb_rel) (by rw [List.length_append, hn, List.length_cons]; tb_rel)
   have S3 := S2.put (p := p) (a := H.length + 2 * j)
   rw [← hn, set_end, hn] at S3
   have i2 := attr_ok (k := 7) S3.st (by decide) rfl
   rw [show H ++ lst H.length (cs.take j) ++ p :: v :: J.drop (2 * (j + 1)) = (H ++ lst H.length (cs.take j) ++ [p]) ++ v :: J.drop (2 * (j + 1)) by simp] at S3
   have hn2 : (H ++ lst H.length (cs.take j) ++ [p]).length = H.length + 2 * j + 1 := by rw [List.length_append, hn]; rfl
   have st2 := fun fr => heap_set (p := (3, (H.length : Int) + 2 * j + 2)) (fr := fr) (a := (H.length : Int) + 2 * j + 1) S3 (by tb_rel) (by rw [List.length_append, hn2, List.length_cons]; tb_rel)
   have S4 := S3.put (p := (3, (H.length : Int) + 2 * j + 2)) (a := H.length + 2 * j + 1)
   rw [← hn2, set_end, hn2] at S4
   rw [show ((H.length : Int) + 2 * j).toNat = H.length + 2 * j by tb_rel] at st1
   rw [show ((H.length : Int) + 2 * j + 1).toNat = H.length + 2 * j + 1 by tb_rel] at st2
   have el : H ++ lst H.length (cs.take j) ++ [p] ++ (3, (H.length : Int) + 2 * j + 2) :: J.drop (2 * (j + 1)) = H ++ (lst H.length (cs.take (j + 1)) ++ J.drop (2 * (j + 1))) := by
    rw [take_next hp, lst_app, List.length_take, Nat.min_eq_left (Nat.le_of_lt hj')]; simp
   rw [el] at S4
   refine ⟨_, rfl, [some (.loc M), some (.loc q), some .none, some e, some (.loc w), x, some (.int H.length), some (.int ((H.length : Int) + 2 * (j : Int) + 2)), some (fAV p)], _, .inl (x_seq (x_setitem (x_var rfl) (x_attr (x_var rfl) i1) (x_var rfl) (st1 _)) (x_next (x_seq (x_setitem (x_tup (x_cons x_cst (x_cons (x_bin (x_var rfl) x_cst x_add) x_nil)) (Nat.le_of_ble_eq_true rfl)) (x_attr (x_var rfl) i2) (x_bin (x_var rfl) x_cst x_add) (st2 _)) (x_next (x_seq (x_aug rfl x_cst) (x_next x_snil)))))), ?_, _, by rw [show (H.length : Int) + 2 * ((j + 1 : Nat) : Int) = (H.length : Int) + 2 * (j : Int) + 2 by tb_rel], S4, k2.trans ((Keep.set (by kts_caught)).trans (Keep.set (by kts_caught)))⟩
   exact chk_ok (get_set hwM.2.symm (get_set hwM.2.symm (k2.at_ _ _ (by simpa using hwM.2) hw))))
 rw [List.length_map, Nat.zero_add, List.take_length, ← hJ, List.drop_length, List.append_nil] at S'
 rw [List.length_map, Nat.zero_add] at hfr
 subst hfr
 exact ⟨_, _, hf, S', k'⟩
end
end Mine
end
section
open PySem PySem.W PySem.Calls PyProof.Rows
namespace Mine
theorem forL_nil {chk : Store → Bool} {g : AV → Frame → Store → GRes} {b : DS} {fr : Frame} {σ : Store} : sForL chk g b [] fr σ = .ok .next fr σ := rfl
section
variable {room : Int} {M : Nat} {H : List (Int × Int)} {σ : Store} {T : List (List Nat)} {F : List (Int × Int)}
theorem list_ok {q : Nat} {cs : List (Int × Int)} (S : Mach room M H σ) (hl : cs.length ≤ 100) (h1 : H.length + 2 * cs.length ≤ 600) (h2 : (H.length : Int) + 2 * cs.length ≤ room)
 (hq : σ[q]? = some (.list (cs.map fAV))) (hqM : q ≠ M + 1) (ht : ∀ p ∈ cs, p.1 ≠ 0 ∧ p.1 ≠ 1) (hne : cs ≠ []) : ∃ σ', sp_st_build_list [.loc M, .loc q] σ = .ok (cl 3 H.length) σ' ∧ Mach room M (H ++ lstE H.length (4, 0) cs) σ' ∧ Keep [M + 1] σ σ' := by
 have lM := S.lt
 have hp : 0 < cs.length := Nat.pos_of_ne_zero fun q => hne (List.eq_nil_of_length_eq_zero q)
 have lq : q < σ.length := (List.getElem?_eq_some_iff.mp hq).1
 have ka : Keep ([] : List Nat) σ (σ ++ [.list []]) := Keep.add
 have hq1 := ka.at_ q _ (by kts_caught) hq
 obtain ⟨x, σ2, hf1, hw2, k2⟩ := list_glob (e := cl 4 0) (q := q) (w := σ.length) (cs := cs) (S.keep ka (by kts_caught) (by kts_caught)) hq1 getL_new (by tb_rel) ⟨by tb_rel, by tb_rel⟩ ht (by tb_rel)
 have k02 : Keep [σ.length] σ σ2 := (ka.mono (by kts_caught)).trans k2
 have Sm2 := S.keep k02 (by kts_caught) (by kts_caught)
 have ln := len_list hw2 (by rw [List.length_map]; tb_rel)
 rw [List.length_map] at ln
 obtain ⟨σ3, e3, S3, k3⟩ := reserve_ok (c := 2 * (cs.length : Int)) Sm2 (by tb_rel) (by tb_rel) (by tb_rel)
 rw [show (2 * (cs.length : Int)).toNat = 2 * cs.length by tb_rel] at S3
 have hw3 := k3.at_ σ.length _ (by kts_caught) hw2
 obtain ⟨z, σ4, hf2, S4, k4⟩ := list_put (e := cl 4 0) (q := q) (w := σ.length) (x := x) S3 (fresh_len _) hw3 ⟨by tb_rel, by tb_rel⟩
 have i4 := attr_ok (k := 7) S4.st (by decide) rfl
 have hlen : (H ++ lst H.length cs).length = H.length + 2 * cs.length := by rw [List.length_append, lst_len]
 have st4 := fun fr => heap_set (p := (4, 0)) (fr := fr) (a := (H.length : Int) + 2 * cs.length - 1) S4 (by tb_rel) (by rw [hlen]; tb_rel)
 rw [show ((H.length : Int) + 2 * cs.length - 1).toNat = H.length + (2 * cs.length - 1) by tb_rel] at st4
 have S5 := S4.put (p := (4, 0)) (a := H.length + (2 * cs.length - 1))
 rw [List.set_append_right _ _ (Nat.le_add_right _ _), Nat.add_sub_cancel_left, lst_end _ _ hne] at S5
 have st2 := Sm2.st
 have hn0 : ¬ ((cs.length : Int) = 0) := by tb_rel
 have hm : ∀ σ, binF .Mult (.int 2) (.int cs.length) σ = .ok (.int (2 * (cs.length : Int))) σ := fun _ => rfl
 refine ⟨_, x_func rfl (by unfold d_st_build_list; (repeat' first | with_reducible refine' x_for ?_ ?_ | with_reducible exact hm _ | ((with_reducible show sIter _ _ _ _ _ = _); first | exact iter_list hq1 hf1 | exact iter_list hw3 hf2) | ((with_reducible show setItemF _ _ _ _ _ = _); exact st4 _) | (with_reducible first | exact x_cst | exact x_nil | exact x_snil | exact x_andret | exact x_sub | exact c_eq | exact c_is | refine' x_next ?_ | refine' x_seq ?_ ?_ | refine' x_assign ?_ | refine' x_ret ?_ | refine' x_sif ?_ ?_ | refine' x_bval ?_ | refine' x_bin ?_ ?_ ?_ | refine' x_cmp ?_ ?_ ?_ | refine' x_attr ?_ ?_ | refine' x_tup ?_ ?_ | refine' x_list ?_ ?_ | refine' x_call ?_ ?_ | refine' x_meth ?_ ?_ ?_ ?_ | refine' x_cons ?_ ?_ | refine' x_setitem ?_ ?_ ?_ ?_) | ((with_reducible refine' x_var ?h); case h => exact rfl) | ((with_reducible refine' if_t ?h ?_); case h => top_raise) | ((with_reducible refine' if_f ?h ?_); case h => top_raise) | ((with_reducible show _ = _); with_reducible assumption) | ((with_reducible show Res.ok _ _ = _); exact rfl) | ((with_reducible show SRes.ok _ _ _ = _); exact rfl) | (exact Nat.le_of_ble_eq_true rfl))), S5, ?_⟩
 exact ⟨Nat.le_trans k02.len (Nat.le_trans k3.len (Nat.le_trans k4.len (by kts_caught))), fun i o hi e => by
  have li : i < σ.length := (List.getElem?_eq_some_iff.mp e).1
  exact get_set (fun q => hi (by simp [q])) (k4.at_ i o hi (k3.at_ i o hi (k02.at_ i o (by kts_caught) e)))⟩
theorem list_ok0 {q : Nat} (S : Mach room M H σ) (hq : σ[q]? = some (.list [])) : ∃ σ', sp_st_build_list [.loc M, .loc q] σ = .ok (cl 4 0) σ' ∧ Keep [] σ σ' := by
 have ka : Keep ([] : List Nat) σ (σ ++ [.list []]) := Keep.add
 have hq1 := ka.at_ q _ (by kts_caught) hq
 have hw := getL_new (σ := σ) (o := .list [])
 have ln := len_list hw (by kts_caught)
 exact ⟨_, x_func rfl (by unfold d_st_build_list; (repeat' first | with_reducible refine' x_for ?_ ?_ | ((with_reducible show sIter _ _ _ _ _ = _); exact iter_list hq1 forL_nil) | (with_reducible first | exact x_cst | exact x_nil | exact x_snil | exact x_andret | exact c_eq | exact c_is | refine' x_next ?_ | refine' x_seq ?_ ?_ | refine' x_assign ?_ | refine' x_ret ?_ | refine' x_sif ?_ ?_ | refine' x_bval ?_ | refine' x_cmp ?_ ?_ ?_ | refine' x_tup ?_ ?_ | refine' x_list ?_ ?_ | refine' x_call ?_ ?_ | refine' x_cons ?_ ?_) | ((with_reducible refine' x_var ?h); case h => exact rfl) | ((with_reducible refine' if_t ?h ?_); case h => top_raise) | ((with_reducible show _ = _); with_reducible assumption) | ((with_reducible show Res.ok _ _ = _); exact rfl) | ((with_reducible show SRes.ok _ _ _ = _); exact rfl) | (exact Nat.le_of_ble_eq_true rfl))), ka⟩
end
end Mine
end
section
open PySem PySem.W PySem.Calls PyProof.Rows
namespace Mine
structure Ar (A M : Nat) (σ : Store) : Prop where
 at_ : ∃ fs, σ[A]? = some (.inst 3 fs) ∧ fs.lookup 5 = some (.loc 4) ∧ fs.lookup 15 = some (.loc M)
theorem Ar.keep {A M : Nat} {σ σ' : Store} {t : List Nat} (S : Ar A M σ) (k : Keep t σ σ') (h : A ∉ t) : Ar A M σ' := let ⟨fs, a, b, c⟩ := S.at_; ⟨fs, k.at_ _ _ h a, b, c⟩
section
variable {room : Int} {A M : Nat} {H : List (Int × Int)} {σ : Store} {T : List (List Nat)} {F : List (Int × Int)}
theorem atom_cell_ok {t : List Nat} (R : Ar A M σ) (S : Mach room M H σ) (S2 : Sym T F σ) (hT : T.length < 900) (ht : (t.length : Int) ≤ room) (hl : t.length ≤ 100) :
 ∃ σ', sp_atom_cell [.loc A, .str t] σ = .ok (cl 4 (ix (add T t) t : Nat)) σ' ∧ Sym (add T t) F σ' ∧ Keep [5, 6] σ σ' := by
 obtain ⟨fs, ha, h5, h15⟩ := R.at_
 have i5 := attr_ok ha (by decide) h5
 have i15 := attr_ok ha (by decide) h15
 have i6 := attr_ok (k := 6) S.st (by decide) rfl
 have i4 := S2.inst
 have ln := len_str (σ := σ) (xs := t) (by tb_rel)
 obtain ⟨σ', e, S', k'⟩ := atom_ok (t := t) S2 hT
 exact ⟨σ', x_func rfl (by unfold d_atom_cell; (repeat' first | (with_reducible first | exact x_cst | exact x_nil | exact x_snil | exact x_andret | exact c_gt | refine' x_next ?_ | refine' x_seq ?_ ?_ | refine' x_ret ?_ | refine' x_sif ?_ ?_ | refine' x_bval ?_ | refine' x_cmp ?_ ?_ ?_ | refine' x_attr ?_ ?_ | refine' x_tup ?_ ?_ | refine' x_call ?_ ?_ | refine' x_meth ?_ ?_ ?_ ?_ | refine' x_cons ?_ ?_) | ((with_reducible refine' x_var ?h); case h => exact rfl) | ((with_reducible refine' if_f ?h ?_); case h => top_raise) | ((with_reducible show _ = _); with_reducible assumption) | ((with_reducible show Res.ok _ _ = _); exact rfl) | ((with_reducible show SRes.ok _ _ _ = _); exact rfl) | (exact Nat.le_of_ble_eq_true rfl))), S', k'⟩
end
end Mine
end
section
open PySem PySem.W PySem.Calls PyProof.Rows
namespace Mine
structure RS where
 T : List (List Nat)
 H : List (Int × Int)
 R : List (Int × Int)
noncomputable def sAV : Option (List Nat) → AV
 | none => .none
 | some t => .str t
noncomputable def part (text : List Nat) (p : Int × Int) : List Nat := (text.drop p.1.toNat).take p.2.toNat
noncomputable def rowOf (L : Int) (T : List (List Nat)) (text : List Nat) (p : Int × Int) : List (Int × Int) := [(5, p.1), (5, p.2), (5, L - p.1 - p.2), (4, ((ix (add T (part text p)) (part text p) : Nat) : Int))]
noncomputable def stepR (f L : Int) (text : List Nat) (sub : Option (List Nat)) (s : RS) (p : Int × Int) : RS :=
 if sub = none ∨ sub = some (part text p) then ⟨add s.T (part text p), s.H ++ (6, f) :: rowOf L s.T text p, s.R ++ [(2, (s.H.length : Int))]⟩ else s
theorem stepR_len {f L : Int} {text : List Nat} {sub : Option (List Nat)} {p : Int × Int} (s : RS) : (stepR f L text sub s p).T.length ≤ s.T.length + 1 ∧ (stepR f L text sub s p).H.length ≤ s.H.length + 5 ∧ (stepR f L text sub s p).R.length ≤ s.R.length + 1 := by
 unfold stepR
 split
 · exact ⟨add_len, by simp [rowOf], by simp⟩
 · exact ⟨by tb_rel, by tb_rel, by tb_rel⟩
theorem iterL_list {n : Nat} {xs : List AV} {g : AV → Frame → Store → GRes} {b : DS} {fr : Frame} {σ : Store} {R : SRes} (h : σ[n]? = some (.list xs)) (k : sForL (chkL n xs) g b xs fr σ = R) : sIterL g b (.loc n) fr σ = R := by
 simp only [sIterL, h]; exact k
theorem slice_part {text : List Nat} {i w : Int} {σ : Store} (h0 : 0 ≤ i) (hw : 0 ≤ w) (h1 : i + w ≤ text.length) (hl : text.length ≤ 1000) : sliceF (.str text) (.int i) (.int (i + w)) .none σ = .ok (.str (part text (i, w))) σ := by
 unfold part
 show (if 0 ≤ i ∧ i ≤ text.length ∧ i ≤ i + w ∧ text.length ≤ 1000 then Res.ok (AV.str ((text.drop i.toNat).take (i + w - i).toNat)) σ else .stuck) = _
 rw [if_pos ⟨h0, by tb_rel, by tb_rel, hl⟩, show (i + w - i).toNat = w.toNat by tb_rel]
noncomputable def fitB (x : Option (List Nat)) (l : List Nat) : Bool := decide (x = none ∨ x = some l)
theorem fit_bor {i k : Nat} {fr : Frame} {σ : Store} {x : Option (List Nat)} {l : List Nat} (hx : fr[i]? = some (some (sAV x))) (hl : fr[k]? = some (some (.str l))) : bOr (bVal (dCmp .Is (DV i) (DC .none))) (bOr (bVal (dCmp .Eq (DV k) (DV i))) (fun _ σ => Res.ok false σ)) fr σ = .ok (fitB x l) σ := by
 cases x with
 | none => exact x_bor (x_bval (x_cmp (x_var hx) x_cst c_is)) rfl
 | some u =>
  refine x_bor (x_bval (x_cmp (x_var hx) x_cst c_is)) (if_f rfl (x_bor (x_bval (x_cmp (x_var hl) (x_var hx) c_seq)) ?_))
  show (if decide (l = u) = true then Res.ok true σ else Res.ok false σ) = Res.ok (decide (_ ∨ _)) σ
  by_cases q : l = u
  · rw [if_pos (decide_eq_true q), decide_eq_true (.inr (by rw [q]))]
  · rw [if_neg (by rw [decide_eq_false q]; decide), decide_eq_false (fun h => by rcases h with h | h; cases h; exact q (Option.some.inj h).symm)]
end Mine
end
section
open PySem PySem.W PySem.Calls PyProof.Rows
namespace Mine
noncomputable def fR (A : Nat) (text : List Nat) (b z a : Int) (sub : Option (List Nat)) (L : Int) (x7 : Option AV) (f : Int) (q fo : Nat) (x11 x12 x13 x14 x15 : Option AV) : Frame := [some (.loc A), some (.str text), some (.int b), some (.int z), some (.int a), some (sAV sub), some (.int L), x7, some (.int f), some (.loc q), some (.loc fo), x11, x12, x13, x14, x15]
structure RInv (room : Int) (A M q : Nat) (F : List (Int × Int)) (s : RS) (σ : Store) : Prop where
 ar : Ar A M σ
 mach : Mach room M s.H σ
 sym : Sym s.T F σ
 rows : σ[q]? = some (.list (s.R.map fAV))
 a1 : 9 ≤ A ∧ A ≠ M + 1 ∧ A ≠ q
 q1 : 9 ≤ q ∧ q ≠ M ∧ q ≠ M + 1
theorem row_step {room L f b z a : Int} {A M q fo : Nat} {F : List (Int × Int)} {s : RS} {σ : Store} {text : List Nat} {sub : Option (List Nat)} {p : Int × Int} {nm : Int × Int} {x7 x13 x14 x15 : Option AV} (I : RInv room A M q F s σ) (hL : L = text.length) (hl : text.length ≤ 9)
 (hp : 0 ≤ p.1 ∧ 0 ≤ p.2 ∧ p.1 + p.2 ≤ L) (hf : 0 < f) (hF : F[f.toNat]? = some nm) (hn : nm.2 = 4) (hT : s.T.length < 800) (hH : s.H.length + 5 ≤ 600) (hH2 : (s.H.length : Int) + 5 ≤ room) (hR : s.R.length ≤ 500) (hroom : (text.length : Int) ≤ room) : ∃ y13 y14 y15 σ',
 ((SQ (QA 13 (dSlice (DV 1) (DV 11) (dBin .Add (DV 11) (DV 12)) (DC .none))) (SQ (sIf (bOr (bVal (dCmp .Is (DV 5) (DC .none))) (bOr (bVal (dCmp .Eq (DV 13) (DV 5))) (fun _ σ => Res.ok false σ))) (SQ (QA 14 (dTup (LC (DC (.int (5))) (LC (dBin .Sub (dBin .Sub (DV 6) (DV 11)) (DV 12)) LN)))) (SQ (QA 15 (dList (LC (dTup (LC (DC (.int (5))) (LC (DV 11) LN))) (LC (dTup (LC (DC (.int (5))) (LC (DV 12) LN))) (LC (DV 14) (LC (dFn sp_atom_cell (LC (DV 0) (LC (DV 13) LN))) LN)))))) (SQ (sExpr (dMethB .list spAppend (DV 9) (LC (dMeth 2 sp_st_new_struct (dAttr 15 (DV 0)) (LC (DV 8) (LC (DV 15) LN))) LN))) SN))) SN) SN)) : DS) (fR A text b z a sub L x7 f q fo (some (.int p.1)) (some (.int p.2)) x13 x14 x15) σ =
  .ok .next (fR A text b z a sub L x7 f q fo (some (.int p.1)) (some (.int p.2)) y13 y14 y15) σ' ∧
 RInv room A M q F (stepR f L text sub s p) σ' ∧ Keep [5, 6, M + 1, q] σ σ' := by
 obtain ⟨i, w⟩ := p
 obtain ⟨h0, h1, h2⟩ := hp
 dsimp only at h0 h1 h2
 have sl := slice_part (text := text) (i := i) (w := w) (σ := σ) h0 h1 (by tb_rel) (by tb_rel)
 have hpl : (part text (i, w)).length ≤ text.length := by unfold part; rw [List.length_take, List.length_drop]; tb_rel
 by_cases hq : sub = none ∨ sub = some (part text (i, w))
 · obtain ⟨σ1, e1, S1, k1⟩ := atom_cell_ok (t := part text (i, w)) I.ar I.mach I.sym (by tb_rel) (by tb_rel) (by tb_rel)
   have lo := I.mach.lo
   have qa := I.a1
   have qq := I.q1
   have M1 := I.mach.keep k1 (by kts_caught) (by kts_caught)
   have ar1 := I.ar.keep k1 (by kts_caught)
   have rows1 := k1.at_ q _ (by kts_caught) I.rows
   have lq1 : q < σ1.length := (List.getElem?_eq_some_iff.mp rows1).1
   have lM1 := M1.lt
   have k2 : Keep ([] : List Nat) σ1 (σ1 ++ [.list ((rowOf L s.T text (i, w)).map fAV)]) := Keep.add
   have M2 := M1.keep k2 (by kts_caught) (by kts_caught)
   have S2 := S1.keep k2 (by kts_caught)
   have ar2 := ar1.keep k2 (by kts_caught)
   have rows2 := k2.at_ q _ (by kts_caught) rows1
   have kl := kind_list rows2
   obtain ⟨σ3, e3, M3, k3⟩ := struct_ok (f := f) (p := nm) (q := σ1.length) (cs := rowOf L s.T text (i, w)) M2 S2 hf hF hn (by simp [rowOf]) (by simp [rowOf]) (by simp [rowOf]; tb_rel) (by simp [rowOf]; tb_rel) getL_new (by tb_rel) (by simp [rowOf])
   have rows3 := k3.at_ q _ (by kts_caught) rows2
   have ap := append_list (v := cl 2 s.H.length) rows3 (by rw [List.length_map]; tb_rel)
   obtain ⟨fs, ha, h5, h15⟩ := ar2.at_
   have i15 := attr_ok ha (by decide) h15
   have st2 := M2.st
   have k13 : Keep [5, 6, M + 1, q] σ (σ3.set q (.list (s.R.map fAV ++ [cl 2 s.H.length]))) := (k1.mono (by kts_caught)).trans ((k2.mono (by kts_caught)).trans ((k3.mono (by kts_caught)).trans (Keep.set (by kts_caught))))
   have fin : RInv room A M q F (stepR f L text sub s (i, w)) (σ3.set q (.list (s.R.map fAV ++ [cl 2 s.H.length]))) := by
    rw [show stepR f L text sub s (i, w) = ⟨add s.T (part text (i, w)), s.H ++ (6, f) :: rowOf L s.T text (i, w), s.R ++ [(2, (s.H.length : Int))]⟩ from if_pos hq]
    have ks : Keep [q] σ3 (σ3.set q (.list (s.R.map fAV ++ [cl 2 s.H.length]))) := Keep.set (by kts_caught)
    exact ⟨(ar2.keep k3 (by kts_caught)).keep ks (by kts_caught), M3.keep ks (by kts_caught) (by kts_caught), (S2.keep k3 (by kts_caught)).keep ks (by kts_caught), by rw [List.map_append]; exact get_self rows3, qa, qq⟩
   obtain ⟨fs0, ha0, h50, h150⟩ := I.ar.at_
   have i15a := attr_ok ha0 (by decide) h150
   have hfit : fitB sub (part text (i, w)) = true := decide_eq_true hq
   exact ⟨some (.str (part text (i, w))), some (cl 5 (L - i - w)), some (.loc σ1.length), _, by (repeat' first | with_reducible exact sl | ((with_reducible show bOr _ _ _ _ = _); exact fit_bor rfl rfl) | ((with_reducible show attrF _ _ _ = _); first | exact i15 | exact i15a) | ((with_reducible show spAppend _ _ = _); exact ap) | ((with_reducible show kindF _ _ _ = _); exact kl) | ((with_reducible show sp_st_new_struct _ _ = _); exact e3) | (with_reducible first | exact x_cst | exact x_nil | exact x_snil | exact x_add | exact x_sub | refine' x_next ?_ | refine' x_seq ?_ ?_ | refine' x_assign ?_ | refine' x_expr ?_ | refine' x_sif ?_ ?_ | refine' x_bin ?_ ?_ ?_ | refine' x_attr ?_ ?_ | refine' x_tup ?_ ?_ | refine' x_list ?_ ?_ | refine' x_slice ?_ ?_ ?_ ?_ ?_ | refine' x_fn ?_ ?_ | refine' x_meth ?_ ?_ ?_ ?_ | refine' x_methB ?_ ?_ ?_ ?_ | refine' x_cons ?_ ?_) | ((with_reducible refine' x_var ?h); case h => exact rfl) | ((with_reducible refine' x_snil' ?h); case h => exact rfl) | ((with_reducible refine' if_t ?h ?_); case h => top_raise) | ((with_reducible refine' if_f ?h ?_); case h => top_raise) | ((with_reducible show _ = _); with_reducible assumption) | ((with_reducible show Res.ok _ _ = _); exact rfl) | ((with_reducible show SRes.ok _ _ _ = _); exact rfl) | (exact Nat.le_of_ble_eq_true rfl)), fin, k13⟩
 · have hfit : fitB sub (part text (i, w)) = false := decide_eq_false hq
   rw [show stepR f L text sub s (i, w) = s from if_neg hq]
   exact ⟨some (.str (part text (i, w))), x14, x15, _, by (repeat' first | with_reducible exact sl | ((with_reducible show bOr _ _ _ _ = _); exact fit_bor rfl rfl) | (with_reducible first | exact x_cst | exact x_nil | exact x_snil | exact x_add | exact x_sub | refine' x_next ?_ | refine' x_seq ?_ ?_ | refine' x_assign ?_ | refine' x_expr ?_ | refine' x_sif ?_ ?_ | refine' x_bin ?_ ?_ ?_ | refine' x_attr ?_ ?_ | refine' x_tup ?_ ?_ | refine' x_list ?_ ?_ | refine' x_slice ?_ ?_ ?_ ?_ ?_ | refine' x_fn ?_ ?_ | refine' x_meth ?_ ?_ ?_ ?_ | refine' x_methB ?_ ?_ ?_ ?_ | refine' x_cons ?_ ?_) | ((with_reducible refine' x_var ?h); case h => exact rfl) | ((with_reducible refine' x_snil' ?h); case h => exact rfl) | ((with_reducible refine' if_t ?h ?_); case h => top_raise) | ((with_reducible refine' if_f ?h ?_); case h => top_raise) | ((with_reducible show _ = _); with_reducible assumption) | ((with_reducible show Res.ok _ _ = _); exact rfl) | ((with_reducible show SRes.ok _ _ _ = _); exact rfl) | (exact Nat.le_of_ble_eq_true rfl)), I, Keep.refl⟩
end Mine
end
section
open PySem PySem.W PySem.Calls PyProof.Rows
namespace Mine
noncomputable def rows (f L : Int) (text : List Nat) (sub : Option (List Nat)) (s : RS) (ps : List (Int × Int)) : RS := ps.foldl (stepR f L text sub) s
theorem rows_next {f L : Int} {text : List Nat} {sub : Option (List Nat)} {s : RS} {ps : List (Int × Int)} {j : Nat} {p : Int × Int} (h : ps[j]? = some p) : rows f L text sub s (ps.take (j + 1)) = stepR f L text sub (rows f L text sub s (ps.take j)) p := by
 unfold rows; rw [take_next h, List.foldl_append]; rfl
theorem rows_len {f L : Int} {text : List Nat} {sub : Option (List Nat)} : ∀ (ps : List (Int × Int)) (s : RS), (rows f L text sub s ps).T.length ≤ s.T.length + ps.length ∧ (rows f L text sub s ps).H.length ≤ s.H.length + 5 * ps.length ∧ (rows f L text sub s ps).R.length ≤ s.R.length + ps.length
 | [], s => ⟨Nat.le_refl _, Nat.le_refl _, Nat.le_refl _⟩
 | p :: ps, s => by
  have h1 := rows_len (f := f) (L := L) (text := text) (sub := sub) ps (stepR f L text sub s p)
  have h2 := stepR_len (f := f) (L := L) (text := text) (sub := sub) (p := p) s
  show (rows f L text sub (stepR f L text sub s p) ps).T.length ≤ _ ∧ (rows f L text sub (stepR f L text sub s p) ps).H.length ≤ _ ∧ (rows f L text sub (stepR f L text sub s p) ps).R.length ≤ _
  rw [List.length_cons]
  tb_rel
theorem rows_loop {room L f b z a : Int} {A M q fo : Nat} {F : List (Int × Int)} {s : RS} {σ : Store} {text : List Nat} {sub : Option (List Nat)} {ps : List (Int × Int)} {nm : Int × Int} {x7 : Option AV} (I : RInv room A M q F s σ) (hL : L = text.length) (hl : text.length ≤ 9)
 (hps : ∀ p ∈ ps, 0 ≤ p.1 ∧ 0 ≤ p.2 ∧ p.1 + p.2 ≤ L) (hf : 0 < f) (hF : F[f.toNat]? = some nm) (hn : nm.2 = 4) (hT : s.T.length + ps.length < 800) (hH : s.H.length + 5 * ps.length ≤ 600) (hH2 : (s.H.length : Int) + 5 * ps.length ≤ room) (hR : s.R.length + ps.length ≤ 500) (hroom : (text.length : Int) ≤ room)
 (hfo : σ[fo]? = some (.list (ps.map fAV))) (hfo2 : 9 ≤ fo ∧ fo ≠ M + 1 ∧ fo ≠ q) : ∃ y11 y12 y13 y14 y15 σ',
 sForL (chkL fo (ps.map fAV)) (g := (gTup2 (gName 11) (gName 12))) (body := (SQ (QA 13 (dSlice (DV 1) (DV 11) (dBin .Add (DV 11) (DV 12)) (DC .none))) (SQ (sIf (bOr (bVal (dCmp .Is (DV 5) (DC .none))) (bOr (bVal (dCmp .Eq (DV 13) (DV 5))) (fun _ σ => Res.ok false σ))) (SQ (QA 14 (dTup (LC (DC (.int (5))) (LC (dBin .Sub (dBin .Sub (DV 6) (DV 11)) (DV 12)) LN)))) (SQ (QA 15 (dList (LC (dTup (LC (DC (.int (5))) (LC (DV 11) LN))) (LC (dTup (LC (DC (.int (5))) (LC (DV 12) LN))) (LC (DV 14) (LC (dFn sp_atom_cell (LC (DV 0) (LC (DV 13) LN))) LN)))))) (SQ (sExpr (dMethB .list spAppend (DV 9) (LC (dMeth 2 sp_st_new_struct (dAttr 15 (DV 0)) (LC (DV 8) (LC (DV 15) LN))) LN))) SN))) SN) SN))) (ps.map fAV) (fR A text b z a sub L x7 f q fo none none none none none) σ =
  .ok .next (fR A text b z a sub L x7 f q fo y11 y12 y13 y14 y15) σ' ∧
 RInv room A M q F (rows f L text sub s ps) σ' ∧ Keep [5, 6, M + 1, q] σ σ' := by
 obtain ⟨fr', σ', hf', y11, y12, y13, y14, y15, hfr, I', k'⟩ := forL_rule (chk := chkL fo (ps.map fAV)) (g := (gTup2 (gName 11) (gName 12))) (body := (SQ (QA 13 (dSlice (DV 1) (DV 11) (dBin .Add (DV 11) (DV 12)) (DC .none))) (SQ (sIf (bOr (bVal (dCmp .Is (DV 5) (DC .none))) (bOr (bVal (dCmp .Eq (DV 13) (DV 5))) (fun _ σ => Res.ok false σ))) (SQ (QA 14 (dTup (LC (DC (.int (5))) (LC (dBin .Sub (dBin .Sub (DV 6) (DV 11)) (DV 12)) LN)))) (SQ (QA 15 (dList (LC (dTup (LC (DC (.int (5))) (LC (DV 11) LN))) (LC (dTup (LC (DC (.int (5))) (LC (DV 12) LN))) (LC (DV 14) (LC (dFn sp_atom_cell (LC (DV 0) (LC (DV 13) LN))) LN)))))) (SQ (sExpr (dMethB .list spAppend (DV 9) (LC (dMeth 2 sp_st_new_struct (dAttr 15 (DV 0)) (LC (DV 8) (LC (DV 15) LN))) LN))) SN))) SN) SN)))
  (fun j fr σ' => ∃ y11 y12 y13 y14 y15, fr = (fR A text b z a sub L x7 f q fo y11 y12 y13 y14 y15) ∧ RInv room A M q F (rows f L text sub s (ps.take j)) σ' ∧ Keep [5, 6, M + 1, q] σ σ')
  (ps.map fAV) 0 (fr := (fR A text b z a sub L x7 f q fo none none none none none)) (σ := σ) ⟨_, _, _, _, _, rfl, I, Keep.refl⟩ (by
   rintro j y fr σ2 hj ⟨y11, y12, y13, y14, y15, rfl, I2, k2⟩
   obtain ⟨p, hp, rfl⟩ := map_get hj
   rw [Nat.zero_add] at *
   have hj' : j < ps.length := (List.getElem?_eq_some_iff.mp hp).1
   have hlen := rows_len (f := f) (L := L) (text := text) (sub := sub) (ps.take j) s
   rw [List.length_take, Nat.min_eq_left (Nat.le_of_lt hj')] at hlen
   obtain ⟨z13, z14, z15, σ3, h, I3, k3⟩ := row_step (b := b) (z := z) (a := a) (fo := fo) (p := p) (x7 := x7) (x13 := y13) (x14 := y14) (x15 := y15) I2 hL hl (hps p (List.mem_of_getElem? hp)) hf hF hn (by tb_rel) (by tb_rel) (by tb_rel) (by tb_rel) hroom
   have k23 := k2.trans k3
   refine ⟨_, rfl, _, σ3, .inl h, chk_ok (k23.at_ _ _ (by kts_caught) hfo), _, _, _, _, _, rfl, ?_, k23⟩
   rw [rows_next hp]; exact I3)
 rw [List.length_map, Nat.zero_add, List.take_length] at I'
 subst hfr
 exact ⟨_, _, _, _, _, _, hf', I', k'⟩
end Mine
end
section
open PySem PySem.W PySem.Calls PyProof.Rows
namespace Mine
noncomputable def dS : List Nat := [36, 115]
noncomputable def Td (T : List (List Nat)) : List (List Nat) := add T dS
noncomputable def kd (T : List (List Nat)) : Int × Int := (((ix (Td T) dS : Nat) : Int), 4)
noncomputable def Fd (T : List (List Nat)) (F : List (Int × Int)) : List (Int × Int) := add F (kd T)
noncomputable def fd (T : List (List Nat)) (F : List (Int × Int)) : Int := ((ix (Fd T F) (kd T) : Nat) : Int)
theorem ix_get {κ : Type} [DecidableEq κ] {t : κ} : ∀ {T : List κ}, t ∈ T → T[ix T t]? = some t
 | u :: r, h => by
  show (u :: r)[if u = t then 0 else ix r t + 1]? = some t
  by_cases e : u = t
  · rw [if_pos e, e]; rfl
  · rw [if_neg e]; exact ix_get ((List.mem_cons.mp h).resolve_left fun q => e q.symm)
theorem fd_get {T : List (List Nat)} {F : List (Int × Int)} : (Fd T F)[(fd T F).toNat]? = some (kd T) := by
 unfold fd; exact ix_get add_mem
end Mine
end
section
open PySem PySem.W PySem.Calls PyProof.Rows
namespace Mine
noncomputable def pIn (L b s a st : Int) : Nat → List (Int × Int)
 | 0 => []
 | n + 1 => pIn L b s a st n ++ if PCd L b s a st n then [(st, (n : Int))] else []
noncomputable def pL (L b s a : Int) : Nat → List (Int × Int)
 | 0 => []
 | n + 1 => pL L b s a n ++ pIn L b s a n (L + 1 - n).toNat
theorem pIn_is {L b s a st : Int} : ∀ n, partsIn L b s a st n = (pIn L b s a st n).map fAV
 | 0 => rfl
 | n + 1 => by
  rw [partsIn_succ, pIn_is n, pIn, List.map_append]
  by_cases q : PCd L b s a st n
  · rw [if_pos q, if_pos q]; rfl
  · rw [if_neg q, if_neg q]; rfl
theorem pL_is {L b s a : Int} : ∀ n, partsL L b s a n = (pL L b s a n).map fAV
 | 0 => rfl
 | n + 1 => by rw [partsL_succ, pL_is n, pIn_is, pL, List.map_append]
theorem pIn_mem {L b s a st : Int} {p : Int × Int} : ∀ {n : Nat}, p ∈ pIn L b s a st n → p.1 = st ∧ 0 ≤ p.2 ∧ p.2 < n ∧ PCd L b s a st p.2
 | 0, h => by cases h
 | n + 1, h => by
  rw [pIn, List.mem_append] at h
  rcases h with h | h
  · have := pIn_mem h; exact ⟨this.1, this.2.1, by tb_rel, this.2.2.2⟩
  · by_cases q : PCd L b s a st n
    · rw [if_pos q] at h
      rw [List.mem_singleton.mp h]
      exact ⟨rfl, by show (0 : Int) ≤ n; tb_rel, by show (n : Int) < _; tb_rel, q⟩
    · rw [if_neg q] at h; cases h
theorem pL_mem {L b s a : Int} {p : Int × Int} : ∀ {n : Nat}, p ∈ pL L b s a n → 0 ≤ p.1 ∧ 0 ≤ p.2 ∧ p.1 + p.2 ≤ L ∧ (s = -1 ∨ s = p.2)
 | 0, h => by cases h
 | n + 1, h => by
  rw [pL, List.mem_append] at h
  rcases h with h | h
  · exact pL_mem h
  · obtain ⟨h1, h2, h3, h4⟩ := pIn_mem h
    exact ⟨by tb_rel, h2, by tb_rel, h4.2.1⟩
noncomputable def tri (L : Nat) : Nat → Nat
 | 0 => 0
 | n + 1 => tri L n + (L + 1 - n)
theorem pIn_len {L b s a st : Int} : ∀ n, (pIn L b s a st n).length ≤ n
 | 0 => Nat.le_refl _
 | n + 1 => by
  have := pIn_len (L := L) (b := b) (s := s) (a := a) (st := st) n
  rw [pIn, List.length_append]
  split <;> simp <;> tb_rel
theorem pL_len {L : Nat} {b s a : Int} : ∀ n, (pL L b s a n).length ≤ tri L n
 | 0 => Nat.le_refl _
 | n + 1 => by
  have h1 := pL_len (L := L) (b := b) (s := s) (a := a) n
  have h2 := pIn_len (L := L) (b := b) (s := s) (a := a) (st := n) (((L : Int) + 1 - n).toNat)
  rw [pL, List.length_append, tri]
  tb_rel
theorem tri_is {L : Nat} (h : L ≤ 6) : 2 * tri L (L + 1) = (L + 1) * (L + 2) ∧ tri L (L + 1) ≤ 28 := by
 have : L = 0 ∨ L = 1 ∨ L = 2 ∨ L = 3 ∨ L = 4 ∨ L = 5 ∨ L = 6 := by tb_rel
 rcases this with h | h | h | h | h | h | h <;> subst h <;> decide
noncomputable def keepP (text : List Nat) (sub : Option (List Nat)) (p : Int × Int) : Bool := decide (sub = none ∨ sub = some (part text p))
theorem part_len {text : List Nat} {p : Int × Int} (h0 : 0 ≤ p.1) (h1 : 0 ≤ p.2) (h2 : p.1 + p.2 ≤ text.length) : ((part text p).length : Int) = p.2 := by
 unfold part; rw [List.length_take, List.length_drop]; tb_rel
theorem keep_len {text u : List Nat} {p : Int × Int} (h0 : 0 ≤ p.1) (h1 : 0 ≤ p.2) (h2 : p.1 + p.2 ≤ text.length) (h : keepP text (some u) p = true) : (u.length : Int) = p.2 := by
 have := of_decide_eq_true h
 rcases this with h | h
 · cases h
 · rw [Option.some.inj h]; exact part_len h0 h1 h2
theorem pIn_keep {text u : List Nat} {b s a st : Int} (h0 : 0 ≤ st) (hs : s = -1 ∨ s = u.length) : ∀ {n : Nat}, st + n ≤ (text.length : Int) + 1 → (pIn text.length b s a st n).filter (keepP text (some u)) = (pIn text.length b u.length a st n).filter (keepP text (some u))
 | 0, _ => rfl
 | n + 1, h => by
  rw [pIn, pIn, List.filter_append, List.filter_append, pIn_keep h0 hs (n := n) (by tb_rel)]
  by_cases k : keepP text (some u) (st, (n : Int)) = true
  · have := keep_len (p := (st, (n : Int))) h0 (by show (0 : Int) ≤ n; tb_rel) (by show st + (n : Int) ≤ _; tb_rel) k
    dsimp only at this
    have e : PCd text.length b s a st n ↔ PCd text.length b u.length a st n := by
     constructor
     · rintro ⟨x, y, z⟩; exact ⟨x, .inr this, z⟩
     · rintro ⟨x, y, z⟩; exact ⟨x, by rcases hs with hs | hs; exact .inl hs; exact .inr (by tb_rel), z⟩
    by_cases q : PCd text.length b s a st n
    · rw [if_pos q, if_pos (e.mp q)]
    · rw [if_neg q, if_neg (fun x => q (e.mpr x))]
  · have z : ∀ (c : Prop) [Decidable c], (if c then [(st, (n : Int))] else []).filter (keepP text (some u)) = [] := fun c _ => by
     split
     · rw [List.filter_cons_of_neg k]; rfl
     · rfl
    rw [z, z]
theorem pL_keep {text u : List Nat} {b s a : Int} (hs : s = -1 ∨ s = u.length) : ∀ {n : Nat}, n ≤ text.length + 1 → (pL text.length b s a n).filter (keepP text (some u)) = (pL text.length b u.length a n).filter (keepP text (some u))
 | 0, _ => rfl
 | n + 1, h => by
  rw [pL, pL, List.filter_append, List.filter_append, pL_keep hs (n := n) (by tb_rel), pIn_keep (by tb_rel) hs (by tb_rel)]
theorem pL_keep0 {text u : List Nat} {b s a : Int} (h1 : s ≠ -1) (h2 : s ≠ u.length) {n : Nat} : (pL text.length b s a n).filter (keepP text (some u)) = [] := by
 rw [List.filter_eq_nil_iff]
 intro p hp k
 obtain ⟨a1, a2, a3, a4⟩ := pL_mem hp
 have := keep_len a1 a2 a3 k
 tb_rel
theorem rows_keep {f L : Int} {text : List Nat} {sub : Option (List Nat)} : ∀ (ps : List (Int × Int)) (s : RS), rows f L text sub s ps = rows f L text none s (ps.filter (keepP text sub))
 | [], s => rfl
 | p :: ps, s => by
  show rows f L text sub (stepR f L text sub s p) ps = _
  by_cases k : keepP text sub p = true
  · rw [List.filter_cons_of_pos k, show stepR f L text sub s p = stepR f L text none s p by unfold stepR; rw [if_pos (of_decide_eq_true k), if_pos (.inl rfl)]]
    exact rows_keep ps _
  · rw [List.filter_cons_of_neg k, show stepR f L text sub s p = s by unfold stepR; rw [if_neg (fun x => k (decide_eq_true x))]]
    exact rows_keep ps _
end Mine
end
section
open PySem PySem.W PySem.Calls PyProof.Rows
namespace Mine
noncomputable def rowC (f L : Int) (T : List (List Nat)) (text : List Nat) (p : Int × Int) : List (Int × Int) := [(6, f), (5, p.1), (5, p.2), (5, L - p.1 - p.2), (4, ((ix T (part text p) : Nat) : Int))]
structure RowsAt (f L : Int) (text : List Nat) (Q : List (Int × Int)) (s : RS) : Prop where
 lenH : s.H.length = 5 * Q.length
 row : ∀ k p, Q[k]? = some p → ∀ j, j < 5 → s.H[5 * k + j]? = (rowC f L s.T text p)[j]?
 lenR : s.R.length = Q.length
 ref : ∀ k, k < Q.length → s.R[k]? = some (2, ((5 * k : Nat) : Int))
 mem : ∀ p ∈ Q, part text p ∈ s.T
theorem ix_add {κ : Type} [DecidableEq κ] {T : List κ} {t u : κ} (h : u ∈ T) : ix (add T t) u = ix T u := by
 unfold add; split
 · rfl
 · exact ix_mem h
theorem mem_add {κ : Type} [DecidableEq κ] {T : List κ} {t u : κ} (h : u ∈ T) : u ∈ add T t := by
 unfold add; split
 · exact h
 · exact List.mem_append_left _ h
theorem rows_at1 {f L : Int} {text : List Nat} {Q : List (Int × Int)} {s : RS} {p : Int × Int} (h : RowsAt f L text Q s) : RowsAt f L text (Q ++ [p]) (stepR f L text none s p) := by
 rw [show stepR f L text none s p = ⟨add s.T (part text p), s.H ++ (6, f) :: rowOf L s.T text p, s.R ++ [(2, (s.H.length : Int))]⟩ from if_pos (.inl rfl)]
 refine ⟨by simp [rowOf, h.lenH]; tb_rel, fun k q hk j hj => ?_, by simp [h.lenR], fun k hk => ?_, fun q hq => ?_⟩
 · show (s.H ++ (6, f) :: rowOf L s.T text p)[5 * k + j]? = (rowC f L (add s.T (part text p)) text q)[j]?
   by_cases hl : k < Q.length
   · rw [List.getElem?_append_left hl] at hk
     rw [List.getElem?_append_left (by rw [h.lenH]; tb_rel), h.row k q hk j hj]
     unfold rowC
     rw [ix_add (h.mem q (List.mem_of_getElem? hk))]
   · have hk2 : k = Q.length := by
      have := (List.getElem?_eq_some_iff.mp hk).1
      rw [List.length_append, List.length_singleton] at this; tb_rel
     rw [hk2, List.getElem?_append_right (Nat.le_refl _), Nat.sub_self] at hk
     rw [← Option.some.inj hk, hk2, List.getElem?_append_right (by rw [h.lenH]; tb_rel), h.lenH, Nat.add_sub_cancel_left]
     rfl
 · show (s.R ++ [(2, (s.H.length : Int))])[k]? = _
   by_cases hl : k < Q.length
   · rw [List.getElem?_append_left (by rw [h.lenR]; exact hl)]; exact h.ref k hl
   · have hk2 : k = Q.length := by rw [List.length_append, List.length_singleton] at hk; tb_rel
     rw [hk2, List.getElem?_append_right (by rw [h.lenR]; exact Nat.le_refl _), h.lenR, Nat.sub_self, h.lenH]; rfl
 · rcases List.mem_append.mp hq with hq | hq
   · exact mem_add (h.mem q hq)
   · rw [List.mem_singleton.mp hq]; exact add_mem
theorem rows_at {f L : Int} {text : List Nat} : ∀ (ps Q : List (Int × Int)) (s : RS), RowsAt f L text Q s → RowsAt f L text (Q ++ ps) (rows f L text none s ps)
 | [], Q, s, h => by rw [List.append_nil]; exact h
 | p :: ps, Q, s, h => by
  have := rows_at ps (Q ++ [p]) _ (rows_at1 (p := p) h)
  rw [List.append_assoc] at this
  exact this
theorem rows_at0 {f L : Int} {text : List Nat} {T : List (List Nat)} (ps : List (Int × Int)) : RowsAt f L text ps (rows f L text none ⟨T, [], []⟩ ps) :=
 rows_at ps [] _ ⟨rfl, fun k p h => (nomatch h), rfl, fun k h => absurd h (Nat.not_lt_zero _), fun p h => (nomatch h)⟩
theorem lstE_get {e c : Int × Int} : ∀ (cs : List (Int × Int)) (n : Int) (k : Nat), cs[k]? = some c → (lstE n e cs)[2 * k]? = some c ∧ (lstE n e cs)[2 * k + 1]? = some (if k + 1 = cs.length then e else (3, n + 2 * k + 2))
 | [], n, k, h => by cases h
 | [d], n, 0, h => ⟨h, rfl⟩
 | [d], n, k + 1, h => by cases h
 | d :: d2 :: r, n, 0, h => ⟨h, by rw [if_neg (by kts_caught)]; show some ((3 : Int), n + 2) = _; rw [show n + 2 * ((0 : Nat) : Int) + 2 = n + 2 by tb_rel]⟩
 | d :: d2 :: r, n, k + 1, h => by
  have := lstE_get (e := e) (d2 :: r) (n + 2) k h
  rw [show n + 2 + 2 * (k : Int) + 2 = n + 2 * ((k + 1 : Nat) : Int) + 2 by tb_rel] at this
  have q : (k + 1 + 1 = (d :: d2 :: r).length) ↔ (k + 1 = (d2 :: r).length) := by rw [List.length_cons (a := d)]; tb_rel
  rw [ite_congr (propext q) (fun _ => rfl) (fun _ => rfl)]
  exact this
structure HeapOf (f L : Int) (T : List (List Nat)) (text : List Nat) (Q H : List (Int × Int)) : Prop where
 row : ∀ k p, Q[k]? = some p → ∀ j, j < 5 → H[5 * k + j]? = (rowC f L T text p)[j]?
 cell : ∀ k, k < Q.length → H[5 * Q.length + 2 * k]? = some (2, ((5 * k : Nat) : Int))
 next : ∀ k, k < Q.length → H[5 * Q.length + 2 * k + 1]? = some (if k + 1 = Q.length then (4, 0) else (3, ((5 * Q.length + 2 * k + 2 : Nat) : Int)))
theorem heap_of {f L : Int} {text : List Nat} {Q : List (Int × Int)} {s : RS} (h : RowsAt f L text Q s) : HeapOf f L s.T text Q (s.H ++ lstE s.H.length (4, 0) s.R) := by
 refine ⟨fun k p hk j hj => ?_, fun k hk => ?_, fun k hk => ?_⟩
 · have := (List.getElem?_eq_some_iff.mp hk).1
   rw [List.getElem?_append_left (by rw [h.lenH]; tb_rel)]; exact h.row k p hk j hj
 · rw [List.getElem?_append_right (by rw [h.lenH]; tb_rel), h.lenH, Nat.add_sub_cancel_left]
   exact (lstE_get s.R _ k (h.ref k hk)).1
 · rw [List.getElem?_append_right (by rw [h.lenH]; tb_rel), h.lenH, show 5 * Q.length + 2 * k + 1 - 5 * Q.length = 2 * k + 1 by tb_rel, (lstE_get s.R _ k (h.ref k hk)).2, h.lenR, show ((5 * Q.length : Nat) : Int) + 2 * (k : Int) + 2 = ((5 * Q.length + 2 * k + 2 : Nat) : Int) by tb_rel]
end Mine
end
section
open PySem PySem.W PySem.Calls PyProof.Rows
namespace Mine
theorem cnt_is {L : Nat} (h : L ≤ 6) : Int.fdiv (((L : Int) + 1) * ((L : Int) + 2)) 2 = ((tri L (L + 1) : Nat) : Int) := by
 have : L = 0 ∨ L = 1 ∨ L = 2 ∨ L = 3 ∨ L = 4 ∨ L = 5 ∨ L = 6 := by tb_rel
 rcases this with h | h | h | h | h | h | h <;> subst h <;> decide
theorem tri_ge {L : Nat} (h : L ≤ 6) : L ≤ tri L (L + 1) * 7 := by
 have : L = 0 ∨ L = 1 ∨ L = 2 ∨ L = 3 ∨ L = 4 ∨ L = 5 ∨ L = 6 := by tb_rel
 rcases this with h | h | h | h | h | h | h <;> subst h <;> decide
theorem ix_pre {κ : Type} [DecidableEq κ] {t : κ} {l : List κ} : ∀ {T : List κ}, t ∈ T → ix (T ++ l) t = ix T t
 | u :: r, h => by
  show (if u = t then 0 else ix (r ++ l) t + 1) = if u = t then 0 else ix r t + 1
  by_cases e : u = t
  · rw [if_pos e, if_pos e]
  · rw [if_neg e, if_neg e, ix_pre ((List.mem_cons.mp h).resolve_left fun q => e q.symm)]
theorem add_get0 {κ : Type} [DecidableEq κ] {T : List κ} {t u : κ} (h : T[0]? = some u) : (add T t)[0]? = some u := by
 unfold add; split
 · exact h
 · rw [List.getElem?_append_left (List.getElem?_eq_some_iff.mp h).1]; exact h
theorem fd_pos {T : List (List Nat)} {F : List (Int × Int)} (h : F[0]? = some (1, 2)) : 0 < fd T F := by
 have h1 := fd_get (T := T) (F := F)
 by_cases q : 0 < fd T F
 · exact q
 · rw [show (fd T F).toNat = 0 by tb_rel, show Fd T F = add F (kd T) from rfl, add_get0 h] at h1
   have := congrArg Prod.snd (Option.some.inj h1)
   exact absurd (show (2 : Int) = 4 from this) (by decide)
structure Out (room : Int) (M : Nat) (text : List Nat) (T T' : List (List Nat)) (F' : List (Int × Int)) (H' Q : List (Int × Int)) (v : AV) (σ' : Store) : Prop where
 sym : Sym T' F' σ'
 mach : Mach room M H' σ'
 nil : Q = [] → v = cl 4 0
 cons : Q ≠ [] → v = cl 3 ((5 * Q.length : Nat) : Int) ∧ dS ∈ T' ∧ ∃ f : Int, 0 < f ∧ F'[f.toNat]? = some (((ix T' dS : Nat) : Int), 4) ∧ f = ((ix F' (((ix T' dS : Nat) : Int), 4) : Nat) : Int) ∧ HeapOf f text.length T' text Q H' ∧ (∀ p ∈ Q, part text p ∈ T')
 lenT : T'.length ≤ T.length + 30
 pre : ∃ l, T' = T ++ l
theorem add_pre {κ : Type} [DecidableEq κ] {T : List κ} {t : κ} : ∃ l, add T t = T ++ l := by
 unfold add; split
 · exact ⟨[], by rw [List.append_nil]⟩
 · exact ⟨[t], rfl⟩
theorem rows_pre {f L : Int} {text : List Nat} {sub : Option (List Nat)} : ∀ (ps : List (Int × Int)) (s : RS), ∃ l, (rows f L text sub s ps).T = s.T ++ l
 | [], s => ⟨[], by rw [List.append_nil]; rfl⟩
 | p :: ps, s => by
  obtain ⟨l, h⟩ := rows_pre (f := f) (L := L) (text := text) (sub := sub) ps (stepR f L text sub s p)
  have : ∃ l, (stepR f L text sub s p).T = s.T ++ l := by
   unfold stepR; split
   · exact add_pre
   · exact ⟨[], by rw [List.append_nil]⟩
  obtain ⟨l2, h2⟩ := this
  exact ⟨l2 ++ l, by show (rows f L text sub (stepR f L text sub s p) ps).T = _; rw [h, h2, List.append_assoc]⟩
theorem sub_chain {room b z a : Int} {A M : Nat} {T : List (List Nat)} {F : List (Int × Int)} {σ : Store} {text : List Nat} {sub : Option (List Nat)} {x7 : Option AV} (ar : Ar A M σ) (mach : Mach room M [] σ) (sym : Sym T F σ) (hA : 9 ≤ A ∧ A ≠ M + 1)
 (hT : T.length < 500) (hF : F.length < 800) (hF0 : F[0]? = some (1, 2)) (hl : text.length ≤ 6) (hb : -1 ≤ b) (hb' : b ≤ 9) (hs : -1 ≤ z) (hs' : z ≤ 9) (ha : -1 ≤ a) (ha' : a ≤ 9)
 (hroom : Int.fdiv (((text.length : Int) + 1) * ((text.length : Int) + 2)) 2 * 7 ≤ room) : ∃ σ1 y11 y12 y13 y14 y15 σ4 v σ5 T' F' H',
  sp_sy_func [.loc 4, .str dS, .int 4] σ = .ok (.int (fd T F)) σ1 ∧ Ar A M ((σ1 ++ [.list []]) ++ [.list ((pL text.length b z a (text.length + 1)).map fAV)]) ∧ Mach room M [] ((σ1 ++ [.list []]) ++ [.list ((pL text.length b z a (text.length + 1)).map fAV)]) ∧
  sp_spans [.int text.length, .int b, .int z, .int a] (σ1 ++ [.list []]) = .ok (.loc (σ1 ++ [AO.list []]).length) ((σ1 ++ [.list []]) ++ [.list ((pL text.length b z a (text.length + 1)).map fAV)]) ∧
  (pL text.length b z a (text.length + 1)).length ≤ 28 ∧ ((pL text.length b z a (text.length + 1)).length : Int) * 7 ≤ room ∧
  sForL (chkL (σ1 ++ [AO.list []]).length ((pL text.length b z a (text.length + 1)).map fAV)) (g := (gTup2 (gName 11) (gName 12))) (body := (SQ (QA 13 (dSlice (DV 1) (DV 11) (dBin .Add (DV 11) (DV 12)) (DC .none))) (SQ (sIf (bOr (bVal (dCmp .Is (DV 5) (DC .none))) (bOr (bVal (dCmp .Eq (DV 13) (DV 5))) (fun _ σ => Res.ok false σ))) (SQ (QA 14 (dTup (LC (DC (.int (5))) (LC (dBin .Sub (dBin .Sub (DV 6) (DV 11)) (DV 12)) LN)))) (SQ (QA 15 (dList (LC (dTup (LC (DC (.int (5))) (LC (DV 11) LN))) (LC (dTup (LC (DC (.int (5))) (LC (DV 12) LN))) (LC (DV 14) (LC (dFn sp_atom_cell (LC (DV 0) (LC (DV 13) LN))) LN)))))) (SQ (sExpr (dMethB .list spAppend (DV 9) (LC (dMeth 2 sp_st_new_struct (dAttr 15 (DV 0)) (LC (DV 8) (LC (DV 15) LN))) LN))) SN))) SN) SN))) ((pL text.length b z a (text.length + 1)).map fAV) (fR A text b z a sub (text.length) x7 ((fd T F)) (σ1.length) ((σ1 ++ [AO.list []]).length) none none none none none) ((σ1 ++ [.list []]) ++ [.list ((pL text.length b z a (text.length + 1)).map fAV)]) =
   .ok .next (fR A text b z a sub (text.length) x7 ((fd T F)) (σ1.length) ((σ1 ++ [AO.list []]).length) y11 y12 y13 y14 y15) σ4 ∧
  Mach room M (rows (fd T F) text.length text sub ⟨Td T, [], []⟩ (pL text.length b z a (text.length + 1))).H σ4 ∧ Ar A M σ4 ∧ sp_st_build_list [.loc M, .loc σ1.length] σ4 = .ok v σ5 ∧
  Out room M text T T' F' H' ((pL text.length b z a (text.length + 1)).filter (keepP text sub)) v σ5 ∧ F' = Fd T F ∧ Keep [5, 6, 7, 8, M + 1] σ σ5 := by
 refine Classical.byContradiction fun hG => ?_
 obtain ⟨σ1, e1, S1, k1⟩ := func_ok (t := dS) (n := 4) sym (by tb_rel) (by tb_rel)
 refine hG ?_
 have lo := mach.lo
 have lM := mach.lt
 have ctr := tri_is hl
 have cnt := cnt_is hl
 have ctr2 := tri_ge hl
 rw [cnt] at hroom
 have hlen := pL_len (L := text.length) (b := b) (s := z) (a := a) (text.length + 1)
 have sp := spans_ok (L := text.length) (b := b) (s := z) (a := a) (σ := σ1 ++ [.list []]) (by tb_rel) (by tb_rel) hb hb' hs hs' ha ha'
 rw [show ((text.length : Int) + 1).toNat = text.length + 1 by tb_rel, pL_is] at sp
 refine Classical.byContradiction fun hG => ?_
 obtain ⟨fs, hAs, _⟩ := ar.at_
 refine hG ?_
 have lA : A < σ.length := (List.getElem?_eq_some_iff.mp hAs).1
 have l1 := k1.len
 have M1 := mach.keep k1 (by kts_caught) (by kts_caught)
 have ar1 := ar.keep k1 (by kts_caught)
 have k2 : Keep ([] : List Nat) σ1 ((σ1 ++ [.list []]) ++ [.list ((pL text.length b z a (text.length + 1)).map fAV)]) := Keep.add.trans Keep.add
 have hq : ((σ1 ++ [AO.list []]) ++ [AO.list ((pL text.length b z a (text.length + 1)).map fAV)])[σ1.length]? = some (.list []) := by rw [List.getElem?_append_left (by kts_caught)]; exact getL_new
 have I : RInv room A M σ1.length (Fd T F) ⟨Td T, [], []⟩ ((σ1 ++ [.list []]) ++ [.list ((pL text.length b z a (text.length + 1)).map fAV)]) := ⟨ar1.keep k2 (by kts_caught), M1.keep k2 (by kts_caught) (by kts_caught), S1.keep k2 (by kts_caught), hq, ⟨hA.1, hA.2, by tb_rel⟩, by tb_rel, by tb_rel, by tb_rel⟩
 have lTd : (Td T).length ≤ T.length + 1 := add_len
 refine Classical.byContradiction fun hG => ?_
 obtain ⟨y11, y12, y13, y14, y15, σ4, e4, I4, k4⟩ := rows_loop (text := text) (L := text.length) (b := b) (z := z) (a := a) (fo := (σ1 ++ [AO.list []]).length) (sub := sub) (ps := pL text.length b z a (text.length + 1)) (x7 := x7) I rfl (by tb_rel) (fun p hp => by have := pL_mem hp; exact ⟨this.1, this.2.1, this.2.2.1⟩) (fd_pos hF0) fd_get rfl (by show (Td T).length + _ < _; tb_rel) (by kts_caught) (by kts_caught) (by kts_caught) (by tb_rel) getL_new ⟨by simp; tb_rel, by simp; tb_rel, by simp⟩
 refine hG ?_
 have hat : RowsAt (fd T F) text.length text ((pL text.length b z a (text.length + 1)).filter (keepP text sub)) (rows (fd T F) text.length text sub ⟨Td T, [], []⟩ (pL text.length b z a (text.length + 1))) := by rw [rows_keep]; exact rows_at0 _
 have hln := rows_len (f := fd T F) (L := text.length) (text := text) (sub := sub) (pL text.length b z a (text.length + 1)) ⟨Td T, [], []⟩
 have hpre := rows_pre (f := fd T F) (L := text.length) (text := text) (sub := sub) (pL text.length b z a (text.length + 1)) ⟨Td T, [], []⟩
 generalize rows (fd T F) text.length text sub ⟨Td T, [], []⟩ (pL text.length b z a (text.length + 1)) = s at *
 dsimp only [List.length_nil] at hln hpre
 have kk : Keep [5, 6, 7, 8, M + 1] σ σ4 := (k1.mono (by kts_caught)).new ((k2.mono (by kts_caught)).trans k4) (by kts_caught)
 have hTd : dS ∈ Td T := add_mem
 have hp2 : ∃ l, s.T = T ++ l := by
  obtain ⟨l, hl⟩ := hpre
  obtain ⟨l0, hl0⟩ := add_pre (T := T) (t := dS)
  exact ⟨l0 ++ l, by rw [hl, show Td T = T ++ l0 from hl0, List.append_assoc]⟩
 have a1 := I.ar
 have a2 := I.mach
 have hlT : s.T.length ≤ T.length + 30 := by tb_rel
 by_cases hne : (pL text.length b z a (text.length + 1)).filter (keepP text sub) = []
 · rw [hne] at hat ⊢
   have hR : s.R = [] := List.eq_nil_of_length_eq_zero hat.lenR
   refine Classical.byContradiction fun hG => ?_
   obtain ⟨σ5, e5, k5⟩ := list_ok0 I4.mach (q := σ1.length) (by rw [I4.rows, hR]; rfl)
   refine hG ?_
   have hlen1 : σ1.length < σ4.length := (List.getElem?_eq_some_iff.mp I4.rows).1
   exact ⟨σ1, y11, y12, y13, y14, y15, σ4, _, σ5, s.T, Fd T F, s.H, e1, a1, a2, sp, by tb_rel, by tb_rel, e4, I4.mach, I4.ar, e5, ⟨I4.sym.keep k5 (by kts_caught), I4.mach.keep k5 (by kts_caught) (by kts_caught), fun _ => rfl, fun h => absurd rfl h, hlT, hp2⟩, rfl, kk.trans (k5.mono (by kts_caught))⟩
 · have hRl := hat.lenR
   have hHl := hat.lenH
   have hRne : s.R ≠ [] := fun q => hne (List.eq_nil_of_length_eq_zero (by rw [← hRl, q]; rfl))
   obtain ⟨σ5, e5, M5, k5⟩ := list_ok (cs := s.R) I4.mach (q := σ1.length) (by tb_rel) (by tb_rel) (by tb_rel) I4.rows (by tb_rel) (fun p hp => by
    obtain ⟨k, hk⟩ := List.mem_iff_getElem?.mp hp
    have hk2 := (List.getElem?_eq_some_iff.mp hk).1
    rw [hat.ref k (by tb_rel)] at hk
    rw [← Option.some.inj hk]; exact ⟨show (2 : Int) ≠ 0 by decide, show (2 : Int) ≠ 1 by decide⟩) hRne
   refine ⟨σ1, y11, y12, y13, y14, y15, σ4, _, σ5, s.T, Fd T F, _, e1, a1, a2, sp, by tb_rel, by tb_rel, e4, I4.mach, I4.ar, e5, ⟨I4.sym.keep k5 (by kts_caught), M5, fun h => absurd h hne, fun _ => ⟨by rw [hHl], ?_, fd T F, fd_pos hF0, ?_, ?_, heap_of hat, hat.mem⟩, hlT, hp2⟩, rfl, kk.trans (k5.mono (by kts_caught))⟩
   · obtain ⟨l, hl⟩ := hpre
     rw [hl]; exact List.mem_append_left _ hTd
   · rw [fd_get]
     obtain ⟨l, hl⟩ := hpre
     rw [hl, ix_pre hTd]; rfl
   · obtain ⟨l, hl⟩ := hpre
     rw [hl, ix_pre hTd]; rfl
end Mine
end
section
open PySem PySem.W PySem.Calls PyProof.Rows
namespace Mine
theorem attr_facts {room : Int} {A M : Nat} {H : List (Int × Int)} {σ : Store} (ar : Ar A M σ) (mach : Mach room M H σ) : attrF 5 (.loc A) σ = .ok (.loc 4) σ ∧ attrF 15 (.loc A) σ = .ok (.loc M) σ ∧ attrF 6 (.loc M) σ = .ok (.int room) σ := by
 obtain ⟨fs, ha1, h5, h15⟩ := ar.at_
 exact ⟨attr_ok ha1 (by decide) h5, attr_ok ha1 (by decide) h15, attr_ok (k := 6) mach.st (by decide) rfl⟩
theorem mulF {x y : Int} {σ : Store} (h : -1000 ≤ x) (h' : x ≤ 1000) : binF .Mult (.int x) (.int y) σ = .ok (.int (x * y)) σ := if_pos (small_of h h')
theorem divF {x : Int} {σ : Store} : binF .FloorDiv (.int x) (.int 2) σ = .ok (.int (Int.fdiv x 2)) σ := rfl
section
variable {room b z a : Int} {A M : Nat} {H : List (Int × Int)} {T : List (List Nat)} {F : List (Int × Int)} {σ : Store} {text : List Nat}
theorem sub_tail {sub : Option (List Nat)} {x7 : Option AV} (ar : Ar A M σ) (mach : Mach room M [] σ) (sym : Sym T F σ) (hA : 9 ≤ A ∧ A ≠ M + 1)
 (hT : T.length < 500) (hF : F.length < 800) (hF0 : F[0]? = some (1, 2)) (hl : text.length ≤ 6) (hb : -1 ≤ b) (hb' : b ≤ 9) (hs : -1 ≤ z) (hs' : z ≤ 9) (ha : -1 ≤ a) (ha' : a ≤ 9)
 (hroom : Int.fdiv (((text.length : Int) + 1) * ((text.length : Int) + 2)) 2 * 7 ≤ room) : ∃ v σ5 T' H' fr', ((SQ (QA 8 (dMeth 0 sp_sy_func (dAttr 5 (DV 0)) (LC (DC (.str [36, 115])) (LC (DC (.int 4)) LN)))) (SQ (QA 9 (dList LN)) (SQ (QA 10 (dFn sp_spans (LC (DV 6) (LC (DV 2) (LC (DV 3) (LC (DV 4) LN)))))) (SQ (sIf (bAnd (bVal (dCmp .Is (DV 5) (DC .none))) (bAnd (bVal (dCmp .Gt (dBin .Mult (dCall spLen (LC (DV 10) LN)) (DC (.int (7)))) (dAttr 6 (dAttr 15 (DV 0))))) (fun _ σ => Res.ok true σ))) (SQ sStuck SN) SN) (SQ (sForT (DV 10) (gTup2 (gName 11) (gName 12)) (SQ (QA 13 (dSlice (DV 1) (DV 11) (dBin .Add (DV 11) (DV 12)) (DC .none))) (SQ (sIf (bOr (bVal (dCmp .Is (DV 5) (DC .none))) (bOr (bVal (dCmp .Eq (DV 13) (DV 5))) (fun _ σ => Res.ok false σ))) (SQ (QA 14 (dTup (LC (DC (.int (5))) (LC (dBin .Sub (dBin .Sub (DV 6) (DV 11)) (DV 12)) LN)))) (SQ (QA 15 (dList (LC (dTup (LC (DC (.int (5))) (LC (DV 11) LN))) (LC (dTup (LC (DC (.int (5))) (LC (DV 12) LN))) (LC (DV 14) (LC (dFn sp_atom_cell (LC (DV 0) (LC (DV 13) LN))) LN)))))) (SQ (sExpr (dMethB .list spAppend (DV 9) (LC (dMeth 2 sp_st_new_struct (dAttr 15 (DV 0)) (LC (DV 8) (LC (DV 15) LN))) LN))) SN))) SN) SN))) (SQ (sRet (dMeth 2 sp_st_build_list (dAttr 15 (DV 0)) (LC (DV 9) LN))) SN)))))) : DS) [some (.loc A), some (.str text), some (.int b), some (.int z), some (.int a), some (sAV sub), some (.int text.length), x7, none, none, none, none, none, none, none, none] σ = .ok (.ret v) fr' σ5 ∧
  Out room M text T T' (Fd T F) H' ((pL text.length b z a (text.length + 1)).filter (keepP text sub)) v σ5 ∧ Keep [5, 6, 7, 8, M + 1] σ σ5 := by
 obtain ⟨i5, i15, i6⟩ := attr_facts ar mach
 have i4 := sym.inst
 obtain ⟨σ1, y11, y12, y13, y14, y15, σ4, v, σ5, T', F', H', e1, ar1, M1, sp, l28, lroom, e4, M4, ar4, e5, out, rfl, k⟩ := sub_chain (sub := sub) (x7 := x7) ar mach sym hA hT hF hF0 hl hb hb' hs hs' ha ha' hroom
 have sp0 := (getL_new (σ := σ1 ++ [AO.list []]) (o := .list ((pL text.length b z a (text.length + 1)).map fAV)))
 have ln2 := len_list sp0 (by rw [List.length_map]; tb_rel)
 rw [List.length_map] at ln2
 obtain ⟨j5, j15, j6⟩ := attr_facts ar1 M1
 obtain ⟨k5, k15, k6⟩ := attr_facts ar4 M4
 have m4 := M4.st
 have hg : (isNone (sAV sub) && (decide (room < ((pL text.length b z a (text.length + 1)).length : Int) * 7) && true)) = false := by rw [decide_eq_false (by tb_rel)]; cases sub <;> rfl
 exact ⟨v, σ5, T', H', _, by (repeat' first | ((with_reducible show sp_sy_func _ _ = _); exact e1) | with_reducible refine' x_bandB ?_ ?_ | ((with_reducible refine' x_forT ?_ ?_)) | ((with_reducible show sIterL _ _ _ _ _ = _); exact iterL_list sp0 e4) | ((with_reducible show binF .Mult _ _ _ = _); exact mulF (by tb_rel) (by tb_rel)) | ((with_reducible refine' if_f ?h ?_); case h => exact hg) | (with_reducible first | exact x_cst | exact x_nil | exact x_snil | exact x_andret | exact c_gt | exact c_is | refine' x_next ?_ | refine' x_seq ?_ ?_ | refine' x_assign ?_ | refine' x_ret ?_ | refine' x_sif ?_ ?_ | refine' x_bval ?_ | refine' x_bin ?_ ?_ ?_ | refine' x_cmp ?_ ?_ ?_ | refine' x_attr ?_ ?_ | refine' x_list ?_ ?_ | refine' x_call ?_ ?_ | refine' x_fn ?_ ?_ | refine' x_meth ?_ ?_ ?_ ?_ | refine' x_cons ?_ ?_) | ((with_reducible refine' x_var ?h); case h => exact rfl) | ((with_reducible refine' if_f ?h ?_); case h => top_raise) | ((with_reducible show _ = _); with_reducible assumption) | ((with_reducible show Res.ok _ _ = _); exact rfl) | ((with_reducible show SRes.ok _ _ _ = _); exact rfl) | (exact Nat.le_of_ble_eq_true rfl)), out, k⟩
theorem sub_none_ok (ar : Ar A M σ) (mach : Mach room M [] σ) (sym : Sym T F σ) (hA : 9 ≤ A ∧ A ≠ M + 1)
 (hT : T.length < 500) (hF : F.length < 800) (hF0 : F[0]? = some (1, 2)) (hl : text.length ≤ 6) (hb : -1 ≤ b) (hb' : b ≤ 9) (hs : -1 ≤ z) (hs' : z ≤ 9) (ha : -1 ≤ a) (ha' : a ≤ 9)
 (hroom : Int.fdiv (((text.length : Int) + 1) * ((text.length : Int) + 2)) 2 * 7 ≤ room) : ∃ v σ5 T' H', sp_sub_atom_rows [.loc A, .str text, .int b, .int z, .int a, .none] σ = .ok v σ5 ∧
  Out room M text T T' (Fd T F) H' ((pL text.length b z a (text.length + 1)).filter (keepP text none)) v σ5 ∧ Keep [5, 6, 7, 8, M + 1] σ σ5 := by
 obtain ⟨i5, i15, i6⟩ := attr_facts ar mach
 have i4 := sym.inst
 have ln := len_str (σ := σ) (xs := text) (by tb_rel)
 have cnt := cnt_is hl
 have ctr := tri_is hl
 by_cases hc : (decide (b = -1) && (decide (z = -1) && (decide (a = -1) && true))) = true
 · obtain ⟨v, σ5, T', H', fr', e, out, k⟩ := sub_tail (sub := none) (x7 := some (.int (Int.fdiv (((text.length : Int) + 1) * ((text.length : Int) + 2)) 2))) ar mach sym hA hT hF hF0 hl hb hb' hs hs' ha ha' hroom
   exact ⟨v, σ5, T', H', x_func rfl (by unfold d_sub_atom_rows; (repeat' first | ((with_reducible show SQ (QA 8 _) _ _ _ = _); exact e) | with_reducible refine' x_bandB ?_ ?_ | ((with_reducible show binF .Mult _ _ _ = _); exact mulF (by tb_rel) (by tb_rel)) | with_reducible exact divF | (with_reducible first | exact x_cst | exact x_nil | exact x_snil | exact x_add | exact c_eq | exact c_gt | exact c_isnot | refine' x_next ?_ | refine' x_seq ?_ ?_ | refine' x_assign ?_ | refine' x_sif ?_ ?_ | refine' x_bval ?_ | refine' x_bin ?_ ?_ ?_ | refine' x_cmp ?_ ?_ ?_ | refine' x_attr ?_ ?_ | refine' x_call ?_ ?_ | refine' x_cons ?_ ?_) | ((with_reducible refine' x_var ?h); case h => exact rfl) | ((with_reducible refine' if_t ?h ?_); case h => top_raise) | ((with_reducible refine' if_f ?h ?_); case h => top_raise) | ((with_reducible show _ = _); with_reducible assumption) | ((with_reducible show Res.ok _ _ = _); exact rfl) | ((with_reducible show SRes.ok _ _ _ = _); exact rfl))), out, k⟩
 · obtain ⟨v, σ5, T', H', fr', e, out, k⟩ := sub_tail (sub := none) (x7 := none) ar mach sym hA hT hF hF0 hl hb hb' hs hs' ha ha' hroom
   have hc0 := Bool.eq_false_iff.mpr hc
   exact ⟨v, σ5, T', H', x_func rfl (by unfold d_sub_atom_rows; (repeat' first | ((with_reducible show SQ (QA 8 _) _ _ _ = _); exact e) | with_reducible refine' x_bandB ?_ ?_ | (with_reducible first | exact x_cst | exact x_nil | exact x_snil | exact x_add | exact c_eq | exact c_gt | exact c_isnot | refine' x_next ?_ | refine' x_seq ?_ ?_ | refine' x_assign ?_ | refine' x_sif ?_ ?_ | refine' x_bval ?_ | refine' x_bin ?_ ?_ ?_ | refine' x_cmp ?_ ?_ ?_ | refine' x_attr ?_ ?_ | refine' x_call ?_ ?_ | refine' x_cons ?_ ?_) | ((with_reducible refine' x_var ?h); case h => exact rfl) | ((with_reducible refine' if_t ?h ?_); case h => top_raise) | ((with_reducible refine' if_f ?h ?_); case h => top_raise) | ((with_reducible show _ = _); with_reducible assumption) | ((with_reducible show Res.ok _ _ = _); exact rfl) | ((with_reducible show SRes.ok _ _ _ = _); exact rfl))), out, k⟩
theorem sub_none0_ok {u : List Nat} (mach : Mach room M H σ) (h1 : z ≠ -1) (h2 : z ≠ u.length) (hu : u.length ≤ 9) : sp_sub_atom_rows [.loc A, .str text, .int b, .int z, .int a, .str u] σ = .ok (cl 4 0) σ := by
 have ln := len_str (σ := σ) (xs := u) (by tb_rel)
 have hg : ((!decide (z = -1)) && ((!decide (z = (u.length : Int))) && true)) = true := by rw [decide_eq_false h1, decide_eq_false h2]; rfl
 have hn : (!isNone (.str u)) = true := rfl
 exact x_func rfl (by unfold d_sub_atom_rows; (repeat' first | with_reducible refine' x_bandB ?_ ?_ | (with_reducible first | exact x_cst | exact x_nil | exact x_andret | exact c_ne | exact c_isnot | refine' x_seq ?_ ?_ | refine' x_ret ?_ | refine' x_sif ?_ ?_ | refine' x_bval ?_ | refine' x_cmp ?_ ?_ ?_ | refine' x_tup ?_ ?_ | refine' x_call ?_ ?_ | refine' x_cons ?_ ?_) | ((with_reducible refine' x_var ?h); case h => exact rfl) | ((with_reducible refine' if_t ?h ?_); case h => top_raise) | ((with_reducible show _ = _); with_reducible assumption) | ((with_reducible show Res.ok _ _ = _); exact rfl) | ((with_reducible show SRes.ok _ _ _ = _); exact rfl) | (exact Nat.le_of_ble_eq_true rfl)))
theorem sub_some_ok {u : List Nat} (ar : Ar A M σ) (mach : Mach room M [] σ) (sym : Sym T F σ) (hA : 9 ≤ A ∧ A ≠ M + 1)
 (hT : T.length < 500) (hF : F.length < 800) (hF0 : F[0]? = some (1, 2)) (hl : text.length ≤ 6) (hb : -1 ≤ b) (hb' : b ≤ 9) (hs : z = -1 ∨ z = u.length) (hu : u.length ≤ 9) (ha : -1 ≤ a) (ha' : a ≤ 9)
 (hroom : Int.fdiv (((text.length : Int) + 1) * ((text.length : Int) + 2)) 2 * 7 ≤ room) : ∃ v σ5 T' H', sp_sub_atom_rows [.loc A, .str text, .int b, .int z, .int a, .str u] σ = .ok v σ5 ∧
  Out room M text T T' (Fd T F) H' ((pL text.length b u.length a (text.length + 1)).filter (keepP text (some u))) v σ5 ∧ Keep [5, 6, 7, 8, M + 1] σ σ5 := by
 have i4 := sym.inst
 have ln := len_str (σ := σ) (xs := text) (by tb_rel)
 have lnu := len_str (σ := σ) (xs := u) (by tb_rel)
 obtain ⟨v, σ5, T', H', fr', e, out, k⟩ := sub_tail (sub := some u) (x7 := none) (b := b) (z := u.length) (a := a) ar mach sym hA hT hF hF0 hl hb hb' (by tb_rel) (by tb_rel) ha ha' hroom
 have hg1 : ((!decide (z = -1)) && ((!decide (z = (u.length : Int))) && true)) = false := by
  rcases hs with h | h
  · rw [decide_eq_true h]; rfl
  · rw [decide_eq_true h]; cases (decide (z = -1)) <;> rfl
 have hg2 : (decide (b = -1) && (decide ((u.length : Int) = -1) && (decide (a = -1) && true))) = false := by rw [decide_eq_false (p := (u.length : Int) = -1) (by tb_rel)]; cases (decide (b = -1)) <;> rfl
 have hn : (!isNone (.str u)) = true := rfl
 exact ⟨v, σ5, T', H', x_func rfl (by unfold d_sub_atom_rows; (repeat' first | ((with_reducible show SQ (QA 8 _) _ _ _ = _); exact e) | with_reducible refine' x_bandB ?_ ?_ | (with_reducible first | exact x_cst | exact x_nil | exact x_snil | exact c_eq | exact c_ne | exact c_isnot | refine' x_next ?_ | refine' x_seq ?_ ?_ | refine' x_assign ?_ | refine' x_sif ?_ ?_ | refine' x_bval ?_ | refine' x_cmp ?_ ?_ ?_ | refine' x_call ?_ ?_ | refine' x_cons ?_ ?_) | ((with_reducible refine' x_var ?h); case h => exact rfl) | ((with_reducible refine' if_t ?h ?_); case h => top_raise) | ((with_reducible refine' if_f ?h ?_); case h => top_raise) | ((with_reducible show _ = _); with_reducible assumption) | ((with_reducible show Res.ok _ _ = _); exact rfl) | ((with_reducible show SRes.ok _ _ _ = _); exact rfl))), out, k⟩
end
end Mine
end
section
open PySem PySem.W PySem.Calls PyProof.Rows
namespace Mine
noncomputable def Run (c : DB) (b : DS) (k : Nat) (fr : Frame) (σ : Store) (fr' : Frame) (σ' : Store) : Prop := ∀ m, sWhile c b (m + k) fr σ = sWhile c b m fr' σ'
theorem Run.trans {c : DB} {b : DS} {k l : Nat} {fr fr1 fr2 : Frame} {σ σ1 σ2 : Store} (h1 : Run c b k fr σ fr1 σ1) (h2 : Run c b l fr1 σ1 fr2 σ2) : Run c b (k + l) fr σ fr2 σ2 := fun m => by
 rw [show m + (k + l) = (m + l) + k by tb_rel, h1 (m + l), h2 m]
theorem Run.next {c : DB} {b : DS} {fr fr1 : Frame} {σ σ1 : Store} (h1 : c fr σ = .ok true σ) (h2 : b fr σ = .ok .next fr1 σ1) : Run c b 1 fr σ fr1 σ1 := fun m => by
 show sWhile c b (m + 1) fr σ = _; simp only [sWhile, h1, h2]
theorem Run.cont {c : DB} {b : DS} {fr fr1 : Frame} {σ σ1 : Store} (h1 : c fr σ = .ok true σ) (h2 : b fr σ = .ok .cont fr1 σ1) : Run c b 1 fr σ fr1 σ1 := fun m => by
 show sWhile c b (m + 1) fr σ = _; simp only [sWhile, h1, h2]
theorem Run.done {c : DB} {b : DS} {k n : Nat} {fr fr1 : Frame} {σ σ1 : Store} (h : Run c b k fr σ fr1 σ1) (hn : k < n) (h1 : c fr1 σ1 = .ok false σ1) : sWhile c b n fr σ = .ok .next fr1 σ1 := by
 obtain ⟨m, rfl⟩ : ∃ m, n = (m + 1) + k := ⟨n - k - 1, by tb_rel⟩
 rw [h (m + 1)]; simp only [sWhile, h1]
theorem pop_ok {σ : Store} {n : Nat} {xs : List AV} {v : AV} (h : σ[n]? = some (.list (xs ++ [v]))) (hl : xs.length < 1000) : spPop [.loc n] σ = .ok v (σ.set n (.list xs)) := by
 simp only [spPop, h, List.getLast?_concat, List.dropLast_concat, List.length_append, List.length_singleton]
 exact if_pos hl
theorem del_ok {fr : Frame} {σ : Store} {n : Nat} {i : Int} {xs ys : List AV} (h : σ[n]? = some (.list (xs ++ ys))) (hi : i = xs.length) (hl : xs.length + ys.length ≤ 1000) : delF (.loc n) (.int i) fr σ = .ok .next fr (σ.set n (.list xs)) := by
 conv => lhs; whnf
 rw [h]; refine (if_pos ⟨by tb_rel, by rw [List.length_append]; exact hl⟩).trans ?_
 rw [show i.toNat = xs.length by tb_rel, List.take_left]
theorem slice_tail {σ : Store} {n : Nat} {i : Int} {xs ys : List AV} (h : σ[n]? = some (.list (xs ++ ys))) (hi : i = xs.length) (hl : xs.length + ys.length ≤ 1000) : sliceF (.loc n) (.int i) .none .none σ = .ok (.loc σ.length) (σ ++ [.list ys]) := by
 conv => lhs; whnf
 rw [h]; refine (if_pos ⟨by tb_rel, by rw [List.length_append]; exact hl⟩).trans ?_
 rw [show i.toNat = xs.length by tb_rel, List.drop_left]
theorem tuple_ok {σ : Store} {n : Nat} {xs : List AV} (h : σ[n]? = some (.list xs)) (hl : xs.length ≤ 1000) : spTuple [.loc n] σ = .ok (.tup xs) σ := by
 conv => lhs; whnf
 rw [h]; exact if_pos hl
theorem range3 {a : Int} (h : -1000 ≤ a) (h' : a ≤ 1000) : rangeOf [.int a, .int (-1), .int (-1)] = some (a, -1, (a + 1).toNat) := if_pos ⟨small_of h h', small_of (by decide) (by decide), rfl⟩
noncomputable def hasK (es : List (Int × AV)) (x : Int) : Prop := (es.any fun e => decide (e.1 = x)) = true
theorem hasK_mem {es : List (Int × AV)} {x : Int} : hasK es x ↔ ∃ e ∈ es, e.1 = x := by
 unfold hasK; rw [List.any_eq_true]; simp only [decide_eq_true_eq]
theorem hasK_set {es : List (Int × AV)} {k x : Int} {v : AV} (h : hasK (setAt k v es) x) : hasK es x ∨ k = x := by
 obtain ⟨e, he, hx⟩ := hasK_mem.mp h
 unfold setAt at he
 split at he
 · obtain ⟨d, hd, hde⟩ := List.mem_map.mp he
   refine .inl (hasK_mem.mpr ⟨d, hd, ?_⟩)
   rw [← hx, ← hde]; split <;> rfl
 · rcases List.mem_append.mp he with he | he
   · exact .inl (hasK_mem.mpr ⟨e, he, hx⟩)
   · rw [List.mem_singleton.mp he] at hx; exact .inr hx
theorem setAt_len {es : List (Int × AV)} {k : Int} {v : AV} : (setAt k v es).length ≤ es.length + 1 := by
 unfold setAt; split <;> simp
noncomputable def atK (es : List (Int × AV)) (x : Int) (v : AV) : Prop := ∃ e, es.find? (fun e => decide (e.1 = x)) = some e ∧ e.2 = v
theorem fk_pos {x : Int} {d : Int × AV} {es : List (Int × AV)} (h : d.1 = x) : (d :: es).find? (fun e => decide (e.1 = x)) = some d := List.find?_cons_of_pos (p := fun e : Int × AV => decide (e.1 = x)) (decide_eq_true h)
theorem fk_neg {x : Int} {d : Int × AV} {es : List (Int × AV)} (h : d.1 ≠ x) : (d :: es).find? (fun e => decide (e.1 = x)) = es.find? (fun e => decide (e.1 = x)) := List.find?_cons_of_neg (p := fun e : Int × AV => decide (e.1 = x)) (by simpa using h)
theorem atK_map {k x : Int} {v w : AV} : ∀ {es : List (Int × AV)}, k ≠ x → atK es x v → atK (es.map (fun e => if e.1 = k then (e.1, w) else e)) x v
 | [], _, h => h
 | d :: es, hn, ⟨e, he, hv⟩ => by
  by_cases hd : d.1 = x
  · refine ⟨d, ?_, ?_⟩
    · rw [List.map_cons, if_neg (by rw [hd]; exact fun q => hn q.symm), fk_pos hd]
    · rw [fk_pos hd] at he; rw [Option.some.inj he]; exact hv
  · rw [fk_neg hd] at he
    obtain ⟨e2, h1, h2⟩ := atK_map (w := w) hn ⟨e, he, hv⟩
    refine ⟨e2, ?_, h2⟩
    rw [List.map_cons, fk_neg (by split <;> exact hd)]
    exact h1
theorem atK_ne {es : List (Int × AV)} {k x : Int} {v w : AV} (hn : k ≠ x) (h : atK es x v) : atK (setAt k w es) x v := by
 unfold setAt; split
 · exact atK_map hn h
 · obtain ⟨e, he, hv⟩ := h
   exact ⟨e, by rw [List.find?_append, he]; rfl, hv⟩
theorem atK_map1 {k : Int} {w : AV} : ∀ {es : List (Int × AV)}, hasK es k → atK (es.map (fun e => if e.1 = k then (e.1, w) else e)) k w
 | d :: es, h => by
  by_cases hd : d.1 = k
  · exact ⟨(d.1, w), by rw [List.map_cons, if_pos hd]; exact fk_pos hd, rfl⟩
  · have : hasK es k := by
     unfold hasK at h ⊢
     rw [List.any_cons, decide_eq_false hd, Bool.false_or] at h; exact h
    obtain ⟨e2, h1, h2⟩ := atK_map1 (w := w) this
    exact ⟨e2, by rw [List.map_cons, if_neg hd, fk_neg hd]; exact h1, h2⟩
theorem atK_eq {es : List (Int × AV)} {k : Int} {w : AV} : atK (setAt k w es) k w := by
 unfold setAt; split
 · next h => exact atK_map1 h
 · next h =>
   refine ⟨(k, w), ?_, rfl⟩
   have : es.find? (fun e => decide (e.1 = k)) = none := by
    rw [List.find?_eq_none]; intro e he hx; exact h (List.any_eq_true.mpr ⟨e, he, hx⟩)
   rw [List.find?_append, this]; exact fk_pos (d := (k, w)) rfl
theorem item_atK {σ : Store} {n : Nat} {es : List (Int × AV)} {i : Int} {v : AV} (h : σ[n]? = some (.dictI es)) (hv : atK es i v) : itemF (.loc n) (.int i) σ = .ok v σ := by
 obtain ⟨e, he, rfl⟩ := hv
 exact itemF_dictI h he
end Mine
end
section
open PySem PySem.W PySem.Calls PyProof.Rows
namespace Mine
theorem sum_next {ws : List Int} {j : Nat} {w : Int} (h : ws[j]? = some w) : (ws.take (j + 1)).sum = (ws.take j).sum + w := by
 rw [take_next h, List.sum_append_int, List.sum_cons, List.sum_nil, Int.add_zero]
theorem size_ok {room : Int} {M sz : Nat} {H vs : List (Int × Int)} {σ : Store} {S : List (Int × AV)} {t v p : Int} {ws : List Int} (mach : Mach room M H σ) (hsz : σ[sz]? = some (.dictI S)) (hb : sp_ce_base [.loc M, cl t v] σ = .ok (.int p) σ) (hwd : sp_ce_width [.loc M, cl t v] σ = .ok (.int vs.length) σ)
 (hp : 0 ≤ p) (hl : vs.length ≤ 100) (hv : ∀ (i : Nat) (c : Int × Int), vs[i]? = some c → H[p.toNat + i]? = some c) (hw : ws.length = vs.length)
 (ht : ∀ (i : Nat) (c : Int × Int) (w : Int), vs[i]? = some c → ws[i]? = some w → c.1 ≠ 0 ∧ c.1 ≠ 1 ∧ ((c.1 = 2 ∨ c.1 = 3) ∧ atK S c.2 (.int w) ∨ ¬ (c.1 = 2 ∨ c.1 = 3) ∧ w = 1)) : sp_st_whole_size [.loc M, cl t v, .loc sz] σ = .ok (.int (1 + ws.sum)) σ := by
 have st := mach.st
 have i7 := attr_ok (k := 7) st (by decide) rfl
 obtain ⟨fr', σ', hf, x5, x6, hfr, hσ⟩ := forL_rule (chk := fun _ => true) (g := (gName 5)) (body := (SQ (QA 6 (dMeth 2 sp_ce_deref (DV 0) (LC (dItem (dAttr 7 (DV 0)) (dBin .Add (DV 4) (DV 5))) LN))) (SQ (sIf (bVal (dMeth 2 sp_ce_is_compound (DV 0) (LC (DV 6) LN))) (SQ (sAug 3 (dItem (DV 2) (dItem (DV 6) (DC (.int 1))))) SN) (SQ (sAug 3 (DC (.int 1))) SN)) SN)))
  (fun j fr σ' => ∃ x5 x6, fr = [some (.loc M), some (cl t v), some (.loc sz), some (.int (1 + (ws.take j).sum)), some (.int p), x5, x6] ∧ σ' = σ)
  (itemsR 0 1 vs.length) 0 (fr := [some (.loc M), some (cl t v), some (.loc sz), some (.int 1), some (.int p), none, none]) (σ := σ) ⟨_, _, rfl, rfl⟩ (by
   rintro j y fr σ2 hj ⟨x5, x6, rfl, rfl⟩
   obtain ⟨hk, rfl⟩ := items0_get hj
   rw [Nat.zero_add] at *
   have hc : vs[j]? = some vs[j] := List.getElem?_eq_getElem hk
   have hwj : ws[j]? = some (ws[j]'(by tb_rel)) := List.getElem?_eq_getElem _
   obtain ⟨h0, h1, h2⟩ := ht j _ _ hc hwj
   have g := heap_at mach (a := p + (j : Int)) (by tb_rel) (by rw [show (p + (j : Int)).toNat = p.toNat + j by tb_rel]; exact hv j _ hc)
   have dr := deref_ok (M := M) (v := vs[j].2) (σ := σ2) h0 h1
   have cp := compound_ok (M := M) (t := vs[j].1) (v := vs[j].2) (σ := σ2)
   rw [sum_next hwj, ← Int.add_assoc]
   rcases h2 with ⟨h3, h4⟩ | ⟨h3, h4⟩
   · have a1 : (decide (vs[j].1 = 2) || decide (vs[j].1 = 3)) = true := by rcases h3 with h | h <;> rw [decide_eq_true h] <;> simp
     have a2 : itemF (cl vs[j].1 vs[j].2) (.int 1) σ2 = .ok (.int vs[j].2) σ2 := rfl
     have a3 := item_atK hsz h4
     exact ⟨_, rfl, [some (.loc M), some (cl t v), some (.loc sz), some (.int (1 + (ws.take j).sum + ws[j]'(by tb_rel))), some (.int p), some (.int j), some (cl vs[j].1 vs[j].2)], σ2, .inl (by (repeat' first | (with_reducible first | exact x_cst | exact x_nil | exact x_snil | exact x_andret | exact x_add | refine' x_next ?_ | refine' x_seq ?_ ?_ | refine' x_assign ?_ | refine' x_ret ?_ | refine' x_sif ?_ ?_ | refine' x_bval ?_ | refine' x_bin ?_ ?_ ?_ | refine' x_attr ?_ ?_ | refine' x_item ?_ ?_ ?_ | refine' x_meth ?_ ?_ ?_ ?_ | refine' x_cons ?_ ?_) | ((with_reducible refine' x_var ?h); case h => exact rfl) | ((with_reducible refine' x_snil' ?h); case h => exact rfl) | ((with_reducible refine' x_aug ?h ?_); case h => exact rfl) | ((with_reducible refine' if_t ?h ?_); case h => top_raise) | ((with_reducible refine' if_f ?h ?_); case h => top_raise) | ((with_reducible show _ = _); with_reducible assumption) | ((with_reducible show Res.ok _ _ = _); exact rfl) | ((with_reducible show SRes.ok _ _ _ = _); exact rfl))), rfl, _, _, rfl, rfl⟩
   · have a1 : (decide (vs[j].1 = 2) || decide (vs[j].1 = 3)) = false := by rw [decide_eq_false (fun h => h3 (.inl h)), decide_eq_false (fun h => h3 (.inr h))]; rfl
     rw [h4]
     exact ⟨_, rfl, [some (.loc M), some (cl t v), some (.loc sz), some (.int (1 + (ws.take j).sum + 1)), some (.int p), some (.int j), some (cl vs[j].1 vs[j].2)], σ2, .inl (by (repeat' first | (with_reducible first | exact x_cst | exact x_nil | exact x_snil | exact x_andret | exact x_add | refine' x_next ?_ | refine' x_seq ?_ ?_ | refine' x_assign ?_ | refine' x_ret ?_ | refine' x_sif ?_ ?_ | refine' x_bval ?_ | refine' x_bin ?_ ?_ ?_ | refine' x_attr ?_ ?_ | refine' x_item ?_ ?_ ?_ | refine' x_meth ?_ ?_ ?_ ?_ | refine' x_cons ?_ ?_) | ((with_reducible refine' x_var ?h); case h => exact rfl) | ((with_reducible refine' x_snil' ?h); case h => exact rfl) | ((with_reducible refine' x_aug ?h ?_); case h => exact rfl) | ((with_reducible refine' if_t ?h ?_); case h => top_raise) | ((with_reducible refine' if_f ?h ?_); case h => top_raise) | ((with_reducible show _ = _); with_reducible assumption) | ((with_reducible show Res.ok _ _ = _); exact rfl) | ((with_reducible show SRes.ok _ _ _ = _); exact rfl))), rfl, _, _, rfl, rfl⟩)
 rw [itemsR_len, Nat.zero_add, ← hw, List.take_length] at hfr
 subst hfr
 rw [hσ] at hf
 have hr := range1 (b := (vs.length : Int)) (by tb_rel) (by tb_rel)
 rw [show ((vs.length : Int)).toNat = vs.length by tb_rel] at hr
 exact x_func rfl (by unfold d_st_whole_size; (repeat' first | with_reducible refine' x_forR ?_ ?_ ?_ | ((with_reducible show sForL _ _ _ _ _ _ = _); exact hf) | (with_reducible first | exact x_cst | exact x_nil | exact x_snil | exact x_andret | exact x_add | refine' x_next ?_ | refine' x_seq ?_ ?_ | refine' x_assign ?_ | refine' x_ret ?_ | refine' x_sif ?_ ?_ | refine' x_bval ?_ | refine' x_bin ?_ ?_ ?_ | refine' x_attr ?_ ?_ | refine' x_item ?_ ?_ ?_ | refine' x_meth ?_ ?_ ?_ ?_ | refine' x_cons ?_ ?_) | ((with_reducible refine' x_var ?h); case h => exact rfl) | ((with_reducible refine' x_snil' ?h); case h => exact rfl) | ((with_reducible refine' x_aug ?h ?_); case h => exact rfl) | ((with_reducible refine' if_t ?h ?_); case h => top_raise) | ((with_reducible refine' if_f ?h ?_); case h => top_raise) | ((with_reducible show _ = _); with_reducible assumption) | ((with_reducible show Res.ok _ _ = _); exact rfl) | ((with_reducible show SRes.ok _ _ _ = _); exact rfl)))
end Mine
end
section
open PySem PySem.W PySem.Calls PyProof.Rows
namespace Mine
noncomputable def TRun (k : Nat) (fr : Frame) (σ : Store) (fr' : Frame) (σ' : Store) : Prop := Run (c := (bVal (dCmp .Gt (dCall spLen (LC (DV 6) LN)) (DC (.int 0))))) (b := (SQ (sTup (dMethB .list spPop (DV 6) LN) (gTup2 (gName 7) (gName 1))) (SQ (sIf (bVal (dCmp .Eq (DV 7) (DC (.int (1))))) (SQ (QA 8 (dMeth 2 sp_ce_functor_of (DV 0) (LC (DV 1) LN))) (SQ (QA 9 (dBin .Sub (dCall spLen (LC (DV 5) LN)) (dMeth 2 sp_ce_width (DV 0) (LC (DV 1) LN)))) (SQ (QA 10 (dTup (LC (DC (.str [115])) (LC (DV 8) (LC (dCall spTuple (LC (dSlice (DV 5) (DV 9) (DC .none) (DC .none)) LN)) LN))))) (SQ (sDelFrom (DV 5) (DV 9)) (SQ (sSetItem (DV 10) (DV 3) (dItem (DV 1) (DC (.int 1)))) (SQ (sSetItem (dMeth 2 sp_st_whole_size (DV 0) (LC (DV 1) (LC (DV 4) LN))) (DV 4) (dItem (DV 1) (DC (.int 1)))) (SQ (sIf (bVal (dCmp .Gt (dItem (DV 4) (dItem (DV 1) (DC (.int 1)))) (dBin .Add (dAttr 6 (DV 0)) (DC (.int 1))))) (SQ sStuck SN) SN) (SQ (sExpr (dMethB .list spAppend (DV 5) (LC (DV 10) LN))) (SQ sCont SN))))))))) SN) (SQ (QA 1 (dMeth 2 sp_ce_deref (DV 0) (LC (DV 1) LN))) (SQ (QA 11 (dItem (DV 1) (DC (.int 0)))) (SQ (sIf (bVal (dCmp .Eq (DV 11) (DC (.int (0))))) (SQ (sIf (bVal (dCmp .NotIn (dItem (DV 1) (DC (.int 1))) (DV 2))) sStuck SN) (SQ (sExpr (dMethB .list spAppend (DV 5) (LC (dTup (LC (DC (.str [118])) (LC (dItem (DV 2) (dItem (DV 1) (DC (.int 1)))) LN))) LN))) SN)) (SQ (sIf (bVal (dCmp .Eq (DV 11) (DC (.int (4))))) (SQ (sExpr (dMethB .list spAppend (DV 5) (LC (dTup (LC (DC (.str [97])) (LC (dItem (DV 1) (DC (.int 1))) LN))) LN))) SN) (SQ (sIf (bVal (dCmp .Eq (DV 11) (DC (.int (5))))) (SQ (sExpr (dMethB .list spAppend (DV 5) (LC (dTup (LC (DC (.str [105])) (LC (dItem (DV 1) (DC (.int 1))) LN))) LN))) SN) (SQ (sIf (bVal (dCmp .In (dItem (DV 1) (DC (.int 1))) (DV 3))) (SQ (QA 10 (dItem (DV 3) (dItem (DV 1) (DC (.int 1))))) (SQ (sIf (bVal (dCmp .Is (DV 10) (DC .none))) (SQ sStuck SN) SN) (SQ (sExpr (dMethB .list spAppend (DV 5) (LC (DV 10) LN))) SN))) (SQ (sSetItem (DC .none) (DV 3) (dItem (DV 1) (DC (.int 1)))) (SQ (sExpr (dMethB .list spAppend (DV 6) (LC (dTup (LC (DC (.int (1))) (LC (DV 1) LN))) LN))) (SQ (QA 12 (dMeth 2 sp_ce_base (DV 0) (LC (DV 1) LN))) (SQ (sForR (LC (dBin .Sub (dMeth 2 sp_ce_width (DV 0) (LC (DV 1) LN)) (DC (.int 1))) (LC (dNeg (DC (.int 1))) (LC (dNeg (DC (.int 1))) LN))) (gName 13) (SQ (sExpr (dMethB .list spAppend (DV 6) (LC (dTup (LC (DC (.int (0))) (LC (dItem (dAttr 7 (DV 0)) (dBin .Add (DV 12) (DV 13))) LN))) LN))) SN)) SN))))) SN)) SN)) SN)) SN)))))) k fr σ fr' σ'
noncomputable def fT (M tb N : Nat) (x1 x7 x8 x9 x10 x11 x12 x13 : Option AV) : Frame := [some (.loc M), x1, some (.loc tb), some (.loc N), some (.loc (N + 1)), some (.loc (N + 2)), some (.loc (N + 3)), x7, x8, x9, x10, x11, x12, x13]
noncomputable abbrev wV (c : AV) : AV := .tup [.int 0, c]
noncomputable abbrev wB (c : AV) : AV := .tup [.int 1, c]
structure TI (room : Int) (M : Nat) (H : List (Int × Int)) (T : List (List Nat)) (F : List (Int × Int)) (N tb : Nat) (K S : List (Int × AV)) (res work : List AV) (fr : Frame) (σ : Store) : Prop where
 mach : Mach room M H σ
 sym : Sym T F σ
 kn : σ[N]? = some (.dictI K)
 sz : σ[N + 1]? = some (.dictI S)
 rs : σ[N + 2]? = some (.list res)
 wk : σ[N + 3]? = some (.list work)
 nM : M + 2 ≤ N
 fr : ∃ x1 x7 x8 x9 x10 x11 x12 x13, fr = (fT M tb N x1 x7 x8 x9 x10 x11 x12 x13)
section
variable {room : Int} {M N tb : Nat} {H : List (Int × Int)} {T : List (List Nat)} {F : List (Int × Int)} {K S : List (Int × AV)} {res w : List AV} {fr : Frame} {σ : Store}
theorem TI.at1 {i : Nat} {o : AO} (I : TI room M H T F N tb K S res w fr σ) (h : N ≤ i) : Mach room M H (σ.set i o) ∧ Sym T F (σ.set i o) := by
 have n := I.nM
 have lo := I.mach.lo
 have k : Keep [i] σ (σ.set i o) := Keep.set (by kts_caught)
 exact ⟨I.mach.keep k (by kts_caught) (by kts_caught), I.sym.keep k (by kts_caught)⟩
theorem t_const {t v : Int} {s : List Nat} (ht : t = 4 ∧ s = [97] ∨ t = 5 ∧ s = [105]) (I : TI room M H T F N tb K S res (w ++ [wV (cl t v)]) fr σ) (hr : res.length ≤ 900) (hw : w.length ≤ 900) :
 ∃ fr' σ', TRun 1 fr σ fr' σ' ∧ TI room M H T F N tb K S (res ++ [.tup [.str s, .int v]]) w fr' σ' ∧ Keep [N, N + 1, N + 2, N + 3] σ σ' := by
 refine Classical.byContradiction fun hG => ?_
 obtain ⟨mach, sym, kn, sz, rs, wk, nM, x1, x7, x8, x9, x10, x11, x12, x13, rfl⟩ := I
 have I : TI room M H T F N tb K S res (w ++ [wV (cl t v)]) (fT M tb N x1 x7 x8 x9 x10 x11 x12 x13) σ := ⟨mach, sym, kn, sz, rs, wk, nM, _, _, _, _, _, _, _, _, rfl⟩
 have ln := len_list wk (by rw [List.length_append, List.length_singleton]; tb_rel)
 have kw := kind_list wk
 have po := pop_ok wk (by tb_rel)
 obtain ⟨m1, s1⟩ := I.at1 (i := N + 3) (o := .list w) (by tb_rel)
 have st1 := m1.st
 have rs1 := get_set (i := N + 3) (o' := .list w) (by tb_rel) rs
 have kr := kind_list rs1
 have ap := append_list (v := .tup [.str s, .int v]) rs1 (by tb_rel)
 have k1 : Keep [N, N + 1, N + 2, N + 3] σ (σ.set (N + 3) (.list w)) := Keep.set (by kts_caught)
 have k2 : Keep [N + 2] (σ.set (N + 3) (.list w)) ((σ.set (N + 3) (.list w)).set (N + 2) (.list (res ++ [.tup [.str s, .int v]]))) := Keep.set (by kts_caught)
 have hc : decide ((0 : Int) < ((w ++ [wV (cl t v)]).length : Int)) = true := decide_eq_true (by rw [List.length_append, List.length_singleton]; tb_rel)
 rcases ht with ⟨rfl, rfl⟩ | ⟨rfl, rfl⟩
 · have dr := deref_ok (t := 4) (v := v) (M := M) (σ := σ.set (N + 3) (.list w)) (by decide) (by decide)
   exact hG ⟨(fT M tb N (some (cl 4 v)) (some (.int 0)) x8 x9 x10 (some (.int 4)) x12 x13), _, Run.next (by rw [← hc]; (repeat' first | (with_reducible first | exact x_cst | exact x_nil | exact x_snil | exact c_eq | exact c_gt | refine' x_next ?_ | refine' x_seq ?_ ?_ | refine' x_assign ?_ | refine' x_expr ?_ | refine' x_sif ?_ ?_ | refine' x_bval ?_ | refine' x_cmp ?_ ?_ ?_ | refine' x_item ?_ ?_ ?_ | refine' x_tup ?_ ?_ | refine' x_call ?_ ?_ | refine' x_meth ?_ ?_ ?_ ?_ | refine' x_methB ?_ ?_ ?_ ?_ | refine' x_cons ?_ ?_ | refine' x_stup ?_ ?_) | ((with_reducible refine' x_var ?h); case h => exact rfl) | ((with_reducible refine' x_snil' ?h); case h => exact rfl) | ((with_reducible refine' if_t ?h ?_); case h => top_raise) | ((with_reducible refine' if_f ?h ?_); case h => top_raise) | ((with_reducible show _ = _); with_reducible assumption) | ((with_reducible show Res.ok _ _ = _); exact rfl) | ((with_reducible show SRes.ok _ _ _ = _); exact rfl) | (exact Nat.le_of_ble_eq_true rfl))) (by (repeat' first | ((with_reducible show gTup2 _ _ _ _ _ = _); exact rfl) | ((with_reducible show itemF (.tup _) _ _ = _); exact rfl) | (with_reducible first | exact x_cst | exact x_nil | exact x_snil | exact c_eq | exact c_gt | refine' x_next ?_ | refine' x_seq ?_ ?_ | refine' x_assign ?_ | refine' x_expr ?_ | refine' x_sif ?_ ?_ | refine' x_bval ?_ | refine' x_cmp ?_ ?_ ?_ | refine' x_item ?_ ?_ ?_ | refine' x_tup ?_ ?_ | refine' x_call ?_ ?_ | refine' x_meth ?_ ?_ ?_ ?_ | refine' x_methB ?_ ?_ ?_ ?_ | refine' x_cons ?_ ?_ | refine' x_stup ?_ ?_) | ((with_reducible refine' x_var ?h); case h => exact rfl) | ((with_reducible refine' x_snil' ?h); case h => exact rfl) | ((with_reducible refine' if_t ?h ?_); case h => top_raise) | ((with_reducible refine' if_f ?h ?_); case h => top_raise) | ((with_reducible show _ = _); with_reducible assumption) | ((with_reducible show Res.ok _ _ = _); exact rfl) | ((with_reducible show SRes.ok _ _ _ = _); exact rfl) | (exact Nat.le_of_ble_eq_true rfl))), ⟨m1.keep k2 (by kts_caught) (by kts_caught), s1.keep k2 (by simp; have := mach.lo; tb_rel), get_set (by tb_rel) (get_set (by tb_rel) kn), get_set (by tb_rel) (get_set (by tb_rel) sz), get_self rs1, get_set (by tb_rel) (get_self wk), nM, _, _, _, _, _, _, _, _, rfl⟩, k1.trans (k2.mono (by kts_caught))⟩
 · have dr := deref_ok (t := 5) (v := v) (M := M) (σ := σ.set (N + 3) (.list w)) (by decide) (by decide)
   exact hG ⟨(fT M tb N (some (cl 5 v)) (some (.int 0)) x8 x9 x10 (some (.int 5)) x12 x13), _, Run.next (by rw [← hc]; (repeat' first | (with_reducible first | exact x_cst | exact x_nil | exact x_snil | exact c_eq | exact c_gt | refine' x_next ?_ | refine' x_seq ?_ ?_ | refine' x_assign ?_ | refine' x_expr ?_ | refine' x_sif ?_ ?_ | refine' x_bval ?_ | refine' x_cmp ?_ ?_ ?_ | refine' x_item ?_ ?_ ?_ | refine' x_tup ?_ ?_ | refine' x_call ?_ ?_ | refine' x_meth ?_ ?_ ?_ ?_ | refine' x_methB ?_ ?_ ?_ ?_ | refine' x_cons ?_ ?_ | refine' x_stup ?_ ?_) | ((with_reducible refine' x_var ?h); case h => exact rfl) | ((with_reducible refine' x_snil' ?h); case h => exact rfl) | ((with_reducible refine' if_t ?h ?_); case h => top_raise) | ((with_reducible refine' if_f ?h ?_); case h => top_raise) | ((with_reducible show _ = _); with_reducible assumption) | ((with_reducible show Res.ok _ _ = _); exact rfl) | ((with_reducible show SRes.ok _ _ _ = _); exact rfl) | (exact Nat.le_of_ble_eq_true rfl))) (by (repeat' first | ((with_reducible show gTup2 _ _ _ _ _ = _); exact rfl) | ((with_reducible show itemF (.tup _) _ _ = _); exact rfl) | (with_reducible first | exact x_cst | exact x_nil | exact x_snil | exact c_eq | exact c_gt | refine' x_next ?_ | refine' x_seq ?_ ?_ | refine' x_assign ?_ | refine' x_expr ?_ | refine' x_sif ?_ ?_ | refine' x_bval ?_ | refine' x_cmp ?_ ?_ ?_ | refine' x_item ?_ ?_ ?_ | refine' x_tup ?_ ?_ | refine' x_call ?_ ?_ | refine' x_meth ?_ ?_ ?_ ?_ | refine' x_methB ?_ ?_ ?_ ?_ | refine' x_cons ?_ ?_ | refine' x_stup ?_ ?_) | ((with_reducible refine' x_var ?h); case h => exact rfl) | ((with_reducible refine' x_snil' ?h); case h => exact rfl) | ((with_reducible refine' if_t ?h ?_); case h => top_raise) | ((with_reducible refine' if_f ?h ?_); case h => top_raise) | ((with_reducible show _ = _); with_reducible assumption) | ((with_reducible show Res.ok _ _ = _); exact rfl) | ((with_reducible show SRes.ok _ _ _ = _); exact rfl) | (exact Nat.le_of_ble_eq_true rfl))), ⟨m1.keep k2 (by kts_caught) (by kts_caught), s1.keep k2 (by simp; have := mach.lo; tb_rel), get_set (by tb_rel) (get_set (by tb_rel) kn), get_set (by tb_rel) (get_set (by tb_rel) sz), get_self rs1, get_set (by tb_rel) (get_self wk), nM, _, _, _, _, _, _, _, _, rfl⟩, k1.trans (k2.mono (by kts_caught))⟩
end
end Mine
end
section
open PySem PySem.W PySem.Calls PyProof.Rows
namespace Mine
structure CellOK (room : Int) (M : Nat) (H : List (Int × Int)) (T : List (List Nat)) (F : List (Int × Int)) (t v p f : Int) (vs : List (Int × Int)) : Prop where
 tt : t = 2 ∨ t = 3
 base : ∀ σ, Mach room M H σ → sp_ce_base [.loc M, cl t v] σ = .ok (.int p) σ
 width : ∀ σ, Mach room M H σ → Sym T F σ → sp_ce_width [.loc M, cl t v] σ = .ok (.int vs.length) σ
 fn : ∀ σ, Mach room M H σ → sp_ce_functor_of [.loc M, cl t v] σ = .ok (.int f) σ
 p0 : 0 ≤ p
 small : vs.length ≤ 4
 at_ : ∀ (i : Nat) (c : Int × Int), vs[i]? = some c → H[p.toNat + i]? = some c
section
variable {room : Int} {M N tb : Nat} {H vs : List (Int × Int)} {T : List (List Nat)} {F : List (Int × Int)} {K S : List (Int × AV)} {res w : List AV} {fr : Frame} {σ : Store} {t v p f : Int}
theorem push_ok {x7 x8 x9 x10 x11 x13 : Option AV} (mach : Mach room M H σ) (hN : M + 2 ≤ N) (wk : σ[N + 3]? = some (.list w)) (hw : w.length ≤ 900) (hl : vs.length ≤ 4) (hp : 0 ≤ p) (hv : ∀ (i : Nat) (c : Int × Int), vs[i]? = some c → H[p.toNat + i]? = some c) : ∃ y13 σ',
 sForL (fun _ => true) (g := (gName 13)) (body := (SQ (sExpr (dMethB .list spAppend (DV 6) (LC (dTup (LC (DC (.int (0))) (LC (dItem (dAttr 7 (DV 0)) (dBin .Add (DV 12) (DV 13))) LN))) LN))) SN)) (itemsR ((vs.length : Int) - 1) (-1) vs.length) (fT M tb N (some (cl t v)) x7 x8 x9 x10 x11 (some (.int p)) x13) σ =
  .ok .next (fT M tb N (some (cl t v)) x7 x8 x9 x10 x11 (some (.int p)) y13) σ' ∧ σ'[N + 3]? = some (.list (w ++ vs.reverse.map fun c => wV (fAV c))) ∧ Keep [N + 3] σ σ' := by
 obtain ⟨fr', σ', hf, y13, hfr, h1, h2⟩ := forL_rule (chk := fun _ => true) (g := (gName 13)) (body := (SQ (sExpr (dMethB .list spAppend (DV 6) (LC (dTup (LC (DC (.int (0))) (LC (dItem (dAttr 7 (DV 0)) (dBin .Add (DV 12) (DV 13))) LN))) LN))) SN))
  (fun j fr σ' => ∃ y13, fr = (fT M tb N (some (cl t v)) x7 x8 x9 x10 x11 (some (.int p)) y13) ∧ σ'[N + 3]? = some (.list (w ++ (vs.reverse.take j).map fun c => wV (fAV c))) ∧ Keep [N + 3] σ σ')
  (itemsR ((vs.length : Int) - 1) (-1) vs.length) 0 (fr := (fT M tb N (some (cl t v)) x7 x8 x9 x10 x11 (some (.int p)) x13)) (σ := σ) ⟨_, rfl, by rw [List.take_zero, List.map_nil, List.append_nil]; exact wk, Keep.refl⟩ (by
   rintro j y fr σ2 hj ⟨y13, rfl, h1, h2⟩
   obtain ⟨hk, rfl⟩ := itemsR_get hj
   rw [Nat.zero_add] at *
   have hjr : vs.reverse[j]? = some (vs[vs.length - 1 - j]'(by tb_rel)) := by rw [List.getElem?_reverse hk]; exact List.getElem?_eq_getElem _
   have hc := hv (vs.length - 1 - j) _ (List.getElem?_eq_getElem (by tb_rel))
   have m2 := mach.keep h2 (by kts_caught) (by kts_caught)
   have st := m2.st
   have i7 := attr_ok (k := 7) st (by decide) rfl
   have g := heap_at m2 (a := p + ((vs.length : Int) - 1 + (j : Int) * -1)) (by tb_rel) (by rw [show (p + ((vs.length : Int) - 1 + (j : Int) * -1)).toNat = p.toNat + (vs.length - 1 - j) by tb_rel]; exact hc)
   have kl := kind_list h1
   have ap := append_list (v := wV (fAV (vs[vs.length - 1 - j]'(by tb_rel)))) h1 (by rw [List.length_append, List.length_map, List.length_take, List.length_reverse]; tb_rel)
   refine ⟨_, rfl, (fT M tb N (some (cl t v)) x7 x8 x9 x10 x11 (some (.int p)) (some (.int ((vs.length : Int) - 1 + (j : Int) * -1)))), _, .inl (by (repeat' first | ((with_reducible show spAppend _ _ = _); exact ap) | (with_reducible first | exact x_cst | exact x_nil | exact x_add | refine' x_next ?_ | refine' x_seq ?_ ?_ | refine' x_expr ?_ | refine' x_bin ?_ ?_ ?_ | refine' x_attr ?_ ?_ | refine' x_item ?_ ?_ ?_ | refine' x_tup ?_ ?_ | refine' x_methB ?_ ?_ ?_ ?_ | refine' x_cons ?_ ?_) | ((with_reducible refine' x_var ?h); case h => exact rfl) | ((with_reducible refine' x_snil' ?h); case h => exact rfl) | ((with_reducible show _ = _); with_reducible assumption) | ((with_reducible show Res.ok _ _ = _); exact rfl) | ((with_reducible show SRes.ok _ _ _ = _); exact rfl) | (exact Nat.le_of_ble_eq_true rfl))), rfl, _, rfl, ?_, h2.trans (Keep.set (by kts_caught))⟩
   rw [take_next hjr, List.map_append, ← List.append_assoc]; exact get_self h1)
 rw [itemsR_len, Nat.zero_add, show vs.reverse.take vs.length = vs.reverse by rw [← List.length_reverse, List.take_length]] at h1
 subst hfr
 exact ⟨_, _, hf, h1, h2⟩
theorem t_visit (C : CellOK room M H T F t v p f vs) (I : TI room M H T F N tb K S res (w ++ [wV (cl t v)]) fr σ) (hK : ¬ hasK K v) (hKl : K.length ≤ 9000) (hr : res.length ≤ 900) (hw : w.length ≤ 800) :
 ∃ fr' σ', TRun 1 fr σ fr' σ' ∧ TI room M H T F N tb (setAt v .none K) S res ((w ++ [wB (cl t v)]) ++ vs.reverse.map fun c => wV (fAV c)) fr' σ' ∧ Keep [N, N + 1, N + 2, N + 3] σ σ' := by
 obtain ⟨mach, sym, kn, sz, rs, wk, nM, x1, x7, x8, x9, x10, x11, x12, x13, rfl⟩ := I
 have I : TI room M H T F N tb K S res (w ++ [wV (cl t v)]) (fT M tb N x1 x7 x8 x9 x10 x11 x12 x13) σ := ⟨mach, sym, kn, sz, rs, wk, nM, _, _, _, _, _, _, _, _, rfl⟩
 have lo := mach.lo
 have ln := len_list wk (by rw [List.length_append, List.length_singleton]; tb_rel)
 have kw := kind_list wk
 have po := pop_ok wk (by tb_rel)
 obtain ⟨m1, s1⟩ := I.at1 (i := N + 3) (o := .list w) (by tb_rel)
 have st1 := m1.st
 have kn1 := get_set (i := N + 3) (o' := .list w) (by tb_rel) kn
 have wk1 := get_self (o' := .list w) wk
 have sk := fun fr => setItem_dictI (fr := fr) (k := v) (v := .none) kn1 (by tb_rel)
 have k1 : Keep [N, N + 1, N + 2, N + 3] σ (σ.set (N + 3) (.list w)) := Keep.set (by kts_caught)
 have k2 : Keep [N] (σ.set (N + 3) (.list w)) ((σ.set (N + 3) (.list w)).set N (.dictI (setAt v .none K))) := Keep.set (by kts_caught)
 have m2 := m1.keep k2 (by kts_caught) (by kts_caught)
 have s2 := s1.keep k2 (by kts_caught)
 have wk2 := k2.at_ (N + 3) _ (by kts_caught) wk1
 have kw2 := kind_list wk2
 have ap := append_list (v := wB (cl t v)) wk2 (by tb_rel)
 have k3 : Keep [N + 3] ((σ.set (N + 3) (.list w)).set N (.dictI (setAt v .none K))) (((σ.set (N + 3) (.list w)).set N (.dictI (setAt v .none K))).set (N + 3) (.list (w ++ [wB (cl t v)]))) := Keep.set (by kts_caught)
 have m3 := m2.keep k3 (by kts_caught) (by kts_caught)
 have s3 := s2.keep k3 (by kts_caught)
 have st3 := m3.st
 have wk3 := get_self (o' := .list (w ++ [wB (cl t v)])) wk2
 have hb := C.base _ m3
 have hwd := C.width _ m3 s3
 have hr3 := range3 (a := (vs.length : Int) - 1) (by tb_rel) (by have := C.small; tb_rel)
 rw [show ((vs.length : Int) - 1 + 1).toNat = vs.length by tb_rel] at hr3
 have hin : (K.any fun e => decide (e.1 = v)) = false := Bool.eq_false_iff.mpr hK
 have hi : cmpF .In (.int v) (.loc N) (σ.set (N + 3) (.list w)) = .ok (.bool (K.any fun e => decide (e.1 = v))) (σ.set (N + 3) (.list w)) := by show cmpKey id v N _ = _; unfold cmpKey; rw [kn1]; rfl
 have hc : decide ((0 : Int) < ((w ++ [wV (cl t v)]).length : Int)) = true := decide_eq_true (by rw [List.length_append, List.length_singleton]; tb_rel)
 obtain ⟨y13, σ', hf, h1, k4⟩ := push_ok (tb := tb) (t := t) (v := v) (x7 := some (.int 0)) (x8 := x8) (x9 := x9) (x10 := x10) (x11 := some (.int t)) (x13 := x13) m3 nM wk3 (by rw [List.length_append, List.length_singleton]; tb_rel) C.small C.p0 C.at_
 have kk : Keep [N, N + 1, N + 2, N + 3] σ σ' := k1.trans ((k2.mono (by kts_caught)).trans ((k3.mono (by kts_caught)).trans (k4.mono (by kts_caught))))
 have kf : Keep [N + 3] ((σ.set (N + 3) (.list w)).set N (.dictI (setAt v .none K))) σ' := k3.trans k4
 have dr := deref_ok (t := t) (v := v) (M := M) (σ := σ.set (N + 3) (.list w)) (by have := C.tt; tb_rel) (by have := C.tt; tb_rel)
 have tt := C.tt
 have ht0 : decide (t = 0) = false := decide_eq_false (by tb_rel)
 have ht4 : decide (t = 4) = false := decide_eq_false (by tb_rel)
 have ht5 : decide (t = 5) = false := decide_eq_false (by tb_rel)
 exact ⟨(fT M tb N (some (cl t v)) (some (.int 0)) x8 x9 x10 (some (.int t)) (some (.int p)) y13), σ', Run.next (by rw [← hc]; (repeat' first | (with_reducible first | exact x_cst | exact x_nil | exact x_snil | exact x_sub | exact c_eq | exact c_gt | refine' x_next ?_ | refine' x_seq ?_ ?_ | refine' x_assign ?_ | refine' x_expr ?_ | refine' x_sif ?_ ?_ | refine' x_bval ?_ | refine' x_bin ?_ ?_ ?_ | refine' x_cmp ?_ ?_ ?_ | refine' x_neg ?_ | refine' x_item ?_ ?_ ?_ | refine' x_tup ?_ ?_ | refine' x_call ?_ ?_ | refine' x_meth ?_ ?_ ?_ ?_ | refine' x_methB ?_ ?_ ?_ ?_ | refine' x_cons ?_ ?_ | refine' x_setitem ?_ ?_ ?_ ?_ | refine' x_stup ?_ ?_) | ((with_reducible refine' x_var ?h); case h => exact rfl) | ((with_reducible refine' if_f ?h ?_); case h => top_raise) | ((with_reducible show _ = _); with_reducible assumption) | ((with_reducible show Res.ok _ _ = _); exact rfl) | ((with_reducible show SRes.ok _ _ _ = _); exact rfl) | (exact Nat.le_of_ble_eq_true rfl))) (by (repeat' first | ((with_reducible show gTup2 _ _ _ _ _ = _); exact rfl) | ((with_reducible show itemF (.tup _) _ _ = _); exact rfl) | with_reducible refine' x_forR ?_ ?_ ?_ | ((with_reducible show sForL _ _ _ _ _ _ = _); exact hf) | ((with_reducible show setItemF _ _ _ _ _ = _); exact sk _) | ((with_reducible show cmpF .In _ _ _ = _); exact hi) | (with_reducible first | exact x_cst | exact x_nil | exact x_snil | exact x_sub | exact c_eq | exact c_gt | refine' x_next ?_ | refine' x_seq ?_ ?_ | refine' x_assign ?_ | refine' x_expr ?_ | refine' x_sif ?_ ?_ | refine' x_bval ?_ | refine' x_bin ?_ ?_ ?_ | refine' x_cmp ?_ ?_ ?_ | refine' x_neg ?_ | refine' x_item ?_ ?_ ?_ | refine' x_tup ?_ ?_ | refine' x_call ?_ ?_ | refine' x_meth ?_ ?_ ?_ ?_ | refine' x_methB ?_ ?_ ?_ ?_ | refine' x_cons ?_ ?_ | refine' x_setitem ?_ ?_ ?_ ?_ | refine' x_stup ?_ ?_) | ((with_reducible refine' x_var ?h); case h => exact rfl) | ((with_reducible refine' if_f ?h ?_); case h => top_raise) | ((with_reducible show _ = _); with_reducible assumption) | ((with_reducible show Res.ok _ _ = _); exact rfl) | ((with_reducible show SRes.ok _ _ _ = _); exact rfl) | (exact Nat.le_of_ble_eq_true rfl))), ⟨m3.keep k4 (by kts_caught) (by kts_caught), s3.keep k4 (by kts_caught), kf.at_ _ _ (by kts_caught) (get_self kn1), kf.at_ _ _ (by kts_caught) (get_set (by tb_rel) (get_set (by tb_rel) sz)), kf.at_ _ _ (by kts_caught) (get_set (by tb_rel) (get_set (by tb_rel) rs)), h1, nM, _, _, _, _, _, _, _, _, rfl⟩, kk⟩
end
end Mine
end
section
open PySem PySem.W PySem.Calls PyProof.Rows
namespace Mine
section
variable {room : Int} {M N tb : Nat} {H vs : List (Int × Int)} {T : List (List Nat)} {F : List (Int × Int)} {K S : List (Int × AV)} {res w args : List AV} {fr : Frame} {σ : Store} {t v p f : Int} {ws : List Int}
theorem t_build (C : CellOK room M H T F t v p f vs) (I : TI room M H T F N tb K S (res ++ args) (w ++ [wB (cl t v)]) fr σ) (hKl : K.length ≤ 9000) (hSl : S.length ≤ 9000) (hr : res.length ≤ 900) (hw : w.length ≤ 800) (ha : args.length = vs.length) (hws : ws.length = vs.length)
 (ht : ∀ (i : Nat) (c : Int × Int) (w : Int), vs[i]? = some c → ws[i]? = some w → c.1 ≠ 0 ∧ c.1 ≠ 1 ∧ ((c.1 = 2 ∨ c.1 = 3) ∧ atK S c.2 (.int w) ∨ ¬ (c.1 = 2 ∨ c.1 = 3) ∧ w = 1)) (hroom : 1 + ws.sum ≤ room + 1) :
 ∃ fr' σ', TRun 1 fr σ fr' σ' ∧ TI room M H T F N tb (setAt v (.tup [.str [115], .int f, .tup args]) K) (setAt v (.int (1 + ws.sum)) S) (res ++ [.tup [.str [115], .int f, .tup args]]) w fr' σ' ∧ Keep [N, N + 1, N + 2, N + 3] σ σ' := by
 obtain ⟨mach, sym, kn, sz, rs, wk, nM, x1, x7, x8, x9, x10, x11, x12, x13, rfl⟩ := I
 have I : TI room M H T F N tb K S (res ++ args) (w ++ [wB (cl t v)]) (fT M tb N x1 x7 x8 x9 x10 x11 x12 x13) σ := ⟨mach, sym, kn, sz, rs, wk, nM, _, _, _, _, _, _, _, _, rfl⟩
 have lo := mach.lo
 have sm := C.small
 have ln := len_list wk (by rw [List.length_append, List.length_singleton]; tb_rel)
 have kw := kind_list wk
 have po := pop_ok wk (by tb_rel)
 obtain ⟨m1, s1⟩ := I.at1 (i := N + 3) (o := .list w) (by tb_rel)
 have st1 := m1.st
 have k1 : Keep [N, N + 1, N + 2, N + 3] σ (σ.set (N + 3) (.list w)) := Keep.set (by kts_caught)
 have fn1 := C.fn _ m1
 have w1 := C.width _ m1 s1
 have rs1 := get_set (i := N + 3) (o' := .list w) (by tb_rel) rs
 have ln1 := len_list rs1 (by rw [List.length_append]; tb_rel)
 have hfirst : ((res ++ args).length : Int) - (vs.length : Int) = (res.length : Int) := by rw [List.length_append]; tb_rel
 have sl := slice_tail rs1 hfirst (by tb_rel)
 have k2 : Keep ([] : List Nat) (σ.set (N + 3) (.list w)) (σ.set (N + 3) (AO.list w) ++ [AO.list args]) := Keep.add
 have tu := tuple_ok (getL_new (σ := σ.set (N + 3) (.list w)) (o := .list args)) (by tb_rel)
 have rs2 := k2.at_ _ _ (by kts_caught) rs1
 have de := fun fr => del_ok (fr := fr) rs2 hfirst (by tb_rel)
 have k3 : Keep [N + 2] (σ.set (N + 3) (AO.list w) ++ [AO.list args]) (List.set (σ.set (N + 3) (AO.list w) ++ [AO.list args]) (N + 2) (AO.list res)) := Keep.set (by kts_caught)
 have k13 := k1.trans ((k2.mono (by kts_caught)).trans (k3.mono (by kts_caught)))
 have k23 : Keep [N + 2] (σ.set (N + 3) (.list w)) (List.set (σ.set (N + 3) (AO.list w) ++ [AO.list args]) (N + 2) (AO.list res)) := (k2.mono (by kts_caught)).trans k3
 have m3 := m1.keep k23 (by kts_caught) (by kts_caught)
 have s3 := s1.keep k23 (by kts_caught)
 have rs3 := get_self (o' := .list res) rs2
 have kn3 := k23.at_ N _ (by kts_caught) (get_set (i := N + 3) (o' := .list w) (by tb_rel) kn)
 have sz3 := k23.at_ (N + 1) _ (by kts_caught) (get_set (i := N + 3) (o' := .list w) (by tb_rel) sz)
 have wk3 := k23.at_ (N + 3) _ (by kts_caught) (get_self (o' := .list w) wk)
 generalize List.set (σ.set (N + 3) (AO.list w) ++ [AO.list args]) (N + 2) (AO.list res) = σ3 at *
 have sk := fun fr => setItem_dictI (fr := fr) (k := v) (v := .tup [.str [115], .int f, .tup args]) kn3 (by tb_rel)
 have k4 : Keep [N] σ3 (σ3.set N (.dictI (setAt v (.tup [.str [115], .int f, .tup args]) K))) := Keep.set (by kts_caught)
 have m4 := m3.keep k4 (by kts_caught) (by kts_caught)
 have s4 := s3.keep k4 (by kts_caught)
 have st4 := m4.st
 have kn4 := get_self (o' := .dictI (setAt v (.tup [.str [115], .int f, .tup args]) K)) kn3
 have sz4 := k4.at_ _ _ (by kts_caught) sz3
 have rs4 := k4.at_ _ _ (by kts_caught) rs3
 have wk4 := k4.at_ _ _ (by kts_caught) wk3
 generalize σ3.set N (.dictI (setAt v (.tup [.str [115], .int f, .tup args]) K)) = σ4 at *
 have ws4 := size_ok (t := t) (v := v) m4 sz4 (C.base _ m4) (C.width _ m4 s4) C.p0 (by tb_rel) C.at_ hws ht
 have sz' := fun fr => setItem_dictI (fr := fr) (k := v) (v := .int (1 + ws.sum)) sz4 (by tb_rel)
 have k5 : Keep [N + 1] σ4 (σ4.set (N + 1) (.dictI (setAt v (.int (1 + ws.sum)) S))) := Keep.set (by kts_caught)
 have m5 := m4.keep k5 (by kts_caught) (by kts_caught)
 have s5 := s4.keep k5 (by kts_caught)
 have kn5 := k5.at_ _ _ (by kts_caught) kn4
 have sz5 := get_self (o' := .dictI (setAt v (.int (1 + ws.sum)) S)) sz4
 have rs5 := k5.at_ _ _ (by kts_caught) rs4
 have wk5 := k5.at_ _ _ (by kts_caught) wk4
 generalize σ4.set (N + 1) (.dictI (setAt v (.int (1 + ws.sum)) S)) = σ5 at *
 have it5 := item_atK sz5 atK_eq
 have st5 := m5.st
 have i6 := attr_ok (k := 6) st5 (by decide) rfl
 have kr := kind_list rs5
 have ap := append_list (v := .tup [.str [115], .int f, .tup args]) rs5 (by tb_rel)
 have k6 : Keep [N + 2] σ5 (σ5.set (N + 2) (.list (res ++ [.tup [.str [115], .int f, .tup args]]))) := Keep.set (by kts_caught)
 have hc : decide ((0 : Int) < ((w ++ [wB (cl t v)]).length : Int)) = true := decide_eq_true (by rw [List.length_append, List.length_singleton]; tb_rel)
 exact ⟨(fT M tb N (some (cl t v)) (some (.int 1)) (some (.int f)) (some (.int (((res ++ args).length : Int) - (vs.length : Int)))) (some (.tup [.str [115], .int f, .tup args])) x11 x12 x13), _, Run.cont (by rw [← hc]; (repeat' first | (with_reducible first | exact x_cst | exact x_nil | exact x_snil | exact x_scont | exact x_add | exact x_sub | exact c_eq | exact c_gt | refine' x_next ?_ | refine' x_seq ?_ ?_ | refine' x_assign ?_ | refine' x_expr ?_ | refine' x_sif ?_ ?_ | refine' x_bval ?_ | refine' x_bin ?_ ?_ ?_ | refine' x_cmp ?_ ?_ ?_ | refine' x_attr ?_ ?_ | refine' x_item ?_ ?_ ?_ | refine' x_tup ?_ ?_ | refine' x_slice ?_ ?_ ?_ ?_ ?_ | refine' x_call ?_ ?_ | refine' x_meth ?_ ?_ ?_ ?_ | refine' x_methB ?_ ?_ ?_ ?_ | refine' x_cons ?_ ?_ | refine' x_setitem ?_ ?_ ?_ ?_ | refine' x_stup ?_ ?_ | refine' x_sdel ?_ ?_ ?_) | ((with_reducible refine' x_var ?h); case h => exact rfl) | ((with_reducible refine' if_t ?h ?_); case h => top_raise) | ((with_reducible refine' if_f ?h ?_); case h => top_raise) | ((with_reducible show _ = _); with_reducible assumption) | ((with_reducible show Res.ok _ _ = _); exact rfl) | ((with_reducible show SRes.ok _ _ _ = _); exact rfl) | (exact Nat.le_of_ble_eq_true rfl))) (by (repeat' first | ((with_reducible show gTup2 _ _ _ _ _ = _); exact rfl) | ((with_reducible show itemF (.tup _) _ _ = _); exact rfl) | ((with_reducible show setItemF (.loc N) _ _ _ _ = _); exact sk _) | ((with_reducible show setItemF (.loc (N + 1)) _ _ _ _ = _); exact sz' _) | ((with_reducible show delF _ _ _ _ = _); exact de _) | ((with_reducible show sliceF _ _ _ _ _ = _); exact sl) | ((with_reducible show spTuple _ _ = _); exact tu) | ((with_reducible show sp_st_whole_size _ _ = _); exact ws4) | ((with_reducible show itemF (.loc (N + 1)) _ _ = _); exact it5) | ((with_reducible show ((SRes.ok Fl.cont _ _).andThen _).andThen _ = _); exact rfl) | ((with_reducible show (SRes.ok Fl.cont _ _).andThen _ = _); exact rfl) | (with_reducible first | exact x_cst | exact x_nil | exact x_snil | exact x_scont | exact x_add | exact x_sub | exact c_eq | exact c_gt | refine' x_next ?_ | refine' x_seq ?_ ?_ | refine' x_assign ?_ | refine' x_expr ?_ | refine' x_sif ?_ ?_ | refine' x_bval ?_ | refine' x_bin ?_ ?_ ?_ | refine' x_cmp ?_ ?_ ?_ | refine' x_attr ?_ ?_ | refine' x_item ?_ ?_ ?_ | refine' x_tup ?_ ?_ | refine' x_slice ?_ ?_ ?_ ?_ ?_ | refine' x_call ?_ ?_ | refine' x_meth ?_ ?_ ?_ ?_ | refine' x_methB ?_ ?_ ?_ ?_ | refine' x_cons ?_ ?_ | refine' x_setitem ?_ ?_ ?_ ?_ | refine' x_stup ?_ ?_ | refine' x_sdel ?_ ?_ ?_) | ((with_reducible refine' x_var ?h); case h => exact rfl) | ((with_reducible refine' if_t ?h ?_); case h => top_raise) | ((with_reducible refine' if_f ?h ?_); case h => top_raise) | ((with_reducible show _ = _); with_reducible assumption) | ((with_reducible show Res.ok _ _ = _); exact rfl) | ((with_reducible show SRes.ok _ _ _ = _); exact rfl) | (exact Nat.le_of_ble_eq_true rfl))),
  ⟨m5.keep k6 (by kts_caught) (by kts_caught), s5.keep k6 (by kts_caught), k6.at_ _ _ (by kts_caught) kn5, k6.at_ _ _ (by kts_caught) sz5, get_self rs5, k6.at_ _ _ (by kts_caught) wk5, nM, _, _, _, _, _, _, _, _, rfl⟩, k13.trans ((k4.mono (by kts_caught)).trans ((k5.mono (by kts_caught)).trans (k6.mono (by kts_caught))))⟩
end
end Mine
end
section
open PySem PySem.W PySem.Calls PyProof.Rows
namespace Mine
noncomputable abbrev iT (v : Int) : AV := .tup [.str [105], .int v]
noncomputable abbrev aT (v : Int) : AV := .tup [.str [97], .int v]
noncomputable def tRow (f L : Int) (T : List (List Nat)) (text : List Nat) (p : Int × Int) : AV := .tup [.str [115], .int f, .tup [iT p.1, iT p.2, iT (L - p.1 - p.2), aT ((ix T (part text p) : Nat) : Int)]]
noncomputable def tL (f L : Int) (T : List (List Nat)) (text : List Nat) : List (Int × Int) → AV
 | [] => aT 0
 | p :: r => .tup [.str [115], .int 0, .tup [tRow f L T text p, tL f L T text r]]
section
variable {room f L : Int} {M N tb k : Nat} {H Q : List (Int × Int)} {T : List (List Nat)} {text : List Nat} {F : List (Int × Int)} {K S : List (Int × AV)} {res w : List AV} {fr : Frame} {σ : Store} {p : Int × Int} {a : Int}
theorem row_cell (h : HeapOf f L T text Q H) (hf : 0 < f) (hF : F[f.toNat]? = some (a, 4)) (hk : Q[k]? = some p) : CellOK room M H T F 2 ((5 * k : Nat) : Int) (((5 * k : Nat) : Int) + 1) f [(5, p.1), (5, p.2), (5, L - p.1 - p.2), (4, ((ix T (part text p) : Nat) : Int))] := by
 have h0 : H[(((5 * k : Nat) : Int)).toNat]? = some (6, f) := h.row k p hk 0 (by decide)
 refine ⟨.inl rfl, fun σ _ => base2_ok, fun σ m s => width2_ok m s (by tb_rel) h0 (by tb_rel) hF, fun σ m => functor2_ok m (by tb_rel) h0, by tb_rel, Nat.le_of_ble_eq_true rfl, fun i c hc => ?_⟩
 have hi : i < 4 := (List.getElem?_eq_some_iff.mp hc).1
 rw [show (((5 * k : Nat) : Int) + 1).toNat + i = 5 * k + (i + 1) by tb_rel, h.row k p hk (i + 1) (by tb_rel)]
 exact hc
noncomputable def nx (n k : Nat) : Int × Int := if k = n then (4, 0) else (3, ((5 * n + 2 * k : Nat) : Int))
theorem list_cell (h : HeapOf f L T text Q H) (hk : k < Q.length) : CellOK room M H T F 3 ((5 * Q.length + 2 * k : Nat) : Int) ((5 * Q.length + 2 * k : Nat) : Int) 0 [(2, ((5 * k : Nat) : Int)), nx Q.length (k + 1)] := by
 refine ⟨.inr rfl, fun σ _ => base3_ok, fun σ m _ => width3_ok m, fun σ m => functor3_ok m, by tb_rel, Nat.le_of_ble_eq_true rfl, fun i c hc => ?_⟩
 have hi : i < 2 := (List.getElem?_eq_some_iff.mp hc).1
 rcases (show i = 0 ∨ i = 1 by tb_rel) with rfl | rfl
 · rw [← hc]; exact h.cell k hk
 · rw [← hc]
   rw [show ((5 * Q.length + 2 * k : Nat) : Int).toNat + 1 = 5 * Q.length + 2 * k + 1 by tb_rel, h.next k hk]
   rfl
theorem c5 : (5 : Int) ≠ 0 ∧ (5 : Int) ≠ 1 ∧ ¬ ((5 : Int) = 2 ∨ (5 : Int) = 3) := by decide
theorem c4 : (4 : Int) ≠ 0 ∧ (4 : Int) ≠ 1 ∧ ¬ ((4 : Int) = 2 ∨ (4 : Int) = 3) := by decide
theorem run_row (h : HeapOf f L T text Q H) (hf : 0 < f) (hF : F[f.toNat]? = some (a, 4)) (hk : Q[k]? = some p) (I : TI room M H T F N tb K S res (w ++ [wV (cl 2 ((5 * k : Nat) : Int))]) fr σ) (hK : ¬ hasK K ((5 * k : Nat) : Int)) (hKl : K.length ≤ 8000) (hSl : S.length ≤ 8000) (hr : res.length ≤ 800) (hw : w.length ≤ 700) (hroom : 4 ≤ room) :
 ∃ fr' σ' K' S', TRun 6 fr σ fr' σ' ∧ TI room M H T F N tb K' S' (res ++ [tRow f L T text p]) w fr' σ' ∧ Keep [N, N + 1, N + 2, N + 3] σ σ' ∧ (∀ x, hasK K' x → hasK K x ∨ x = ((5 * k : Nat) : Int)) ∧ K'.length ≤ K.length + 2 ∧ S'.length ≤ S.length + 1 ∧ atK S' ((5 * k : Nat) : Int) (.int 5) ∧ (∀ x v, x ≠ ((5 * k : Nat) : Int) → atK S x v → atK S' x v) := by
 have C := row_cell (room := room) (M := M) h hf hF hk
 obtain ⟨fr1, σ1, r1, I1, k1⟩ := t_visit C I hK (by tb_rel) (by tb_rel) (by tb_rel)
 have e : (w ++ [wB (cl 2 ((5 * k : Nat) : Int))]) ++ ([((5 : Int), p.1), (5, p.2), (5, L - p.1 - p.2), (4, ((ix T (part text p) : Nat) : Int))].reverse.map fun c => wV (fAV c)) =
  ((((w ++ [wB (cl 2 ((5 * k : Nat) : Int))]) ++ [wV (cl 4 ((ix T (part text p) : Nat) : Int))]) ++ [wV (cl 5 (L - p.1 - p.2))]) ++ [wV (cl 5 p.2)]) ++ [wV (cl 5 p.1)] := by simp [fAV]
 rw [e] at I1
 have hw1 : (w ++ [wB (cl 2 ((5 * k : Nat) : Int))]).length ≤ 701 := by rw [List.length_append, List.length_singleton]; tb_rel
 obtain ⟨fr2, σ2, r2, I2, k2⟩ := t_const (.inr ⟨rfl, rfl⟩) I1 (by tb_rel) (by kts_caught)
 obtain ⟨fr3, σ3, r3, I3, k3⟩ := t_const (.inr ⟨rfl, rfl⟩) I2 (by kts_caught) (by kts_caught)
 obtain ⟨fr4, σ4, r4, I4, k4⟩ := t_const (.inr ⟨rfl, rfl⟩) I3 (by kts_caught) (by kts_caught)
 obtain ⟨fr5, σ5, r5, I5, k5⟩ := t_const (.inl ⟨rfl, rfl⟩) I4 (by kts_caught) (by kts_caught)
 have e2 : (((res ++ [AV.tup [.str [105], .int p.1]]) ++ [AV.tup [.str [105], .int p.2]]) ++ [AV.tup [.str [105], .int (L - p.1 - p.2)]]) ++ [AV.tup [.str [97], .int ((ix T (part text p) : Nat) : Int)]] = res ++ [iT p.1, iT p.2, iT (L - p.1 - p.2), aT ((ix T (part text p) : Nat) : Int)] := by simp
 rw [e2] at I5
 have sl := setAt_len (es := K) (k := ((5 * k : Nat) : Int)) (v := .none)
 obtain ⟨fr6, σ6, r6, I6, k6⟩ := t_build (ws := [1, 1, 1, 1]) C I5 (by tb_rel) (by tb_rel) (by tb_rel) (by tb_rel) rfl rfl (fun i c w hc hw => by
  have hi : i < 4 := (List.getElem?_eq_some_iff.mp hc).1
  rcases (show i = 0 ∨ i = 1 ∨ i = 2 ∨ i = 3 by tb_rel) with rfl | rfl | rfl | rfl <;> rw [← Option.some.inj hc, ← Option.some.inj hw]
  · exact ⟨c5.1, c5.2.1, .inr ⟨c5.2.2, rfl⟩⟩
  · exact ⟨c5.1, c5.2.1, .inr ⟨c5.2.2, rfl⟩⟩
  · exact ⟨c5.1, c5.2.1, .inr ⟨c5.2.2, rfl⟩⟩
  · exact ⟨c4.1, c4.2.1, .inr ⟨c4.2.2, rfl⟩⟩) (by kts_caught)
 refine ⟨fr6, σ6, _, _, ((((r1.trans r2).trans r3).trans r4).trans r5).trans r6, I6, k1.trans (k2.trans (k3.trans (k4.trans (k5.trans k6)))), fun x hx => ?_, ?_, setAt_len, atK_eq, fun x v hx hv => atK_ne (Ne.symm hx) hv⟩
 · rcases hasK_set hx with hx | hx
   · rcases hasK_set hx with hx | hx
     · exact .inl hx
     · exact .inr hx.symm
   · exact .inr hx.symm
 · exact Nat.le_trans setAt_len (by tb_rel)
end
end Mine
end
section
open PySem PySem.W PySem.Calls PyProof.Rows
namespace Mine
noncomputable def wkL (n k : Nat) : List AV := (List.range k).map fun j => wB (cl 3 ((5 * n + 2 * j : Nat) : Int))
theorem wkL_succ {n k : Nat} : wkL n (k + 1) = wkL n k ++ [wB (cl 3 ((5 * n + 2 * k : Nat) : Int))] := by unfold wkL; rw [List.range_succ, List.map_append]; rfl
theorem wkL_len {n k : Nat} : (wkL n k).length = k := by unfold wkL; rw [List.length_map, List.length_range]
section
variable {room f L : Int} {M N tb : Nat} {H Q : List (Int × Int)} {T : List (List Nat)} {text : List Nat} {F : List (Int × Int)} {fr : Frame} {σ : Store} {a : Int}
theorem run_down (h : HeapOf f L T text Q H) (hf : 0 < f) (hF : F[f.toNat]? = some (a, 4)) (hQ : Q.length ≤ 100) (hroom : 4 ≤ room) (I : TI room M H T F N tb [] [] [] [wV (cl (nx Q.length 0).1 (nx Q.length 0).2)] fr σ) : ∀ k, k ≤ Q.length →
 ∃ fr' σ' K S, TRun (7 * k) fr σ fr' σ' ∧ TI room M H T F N tb K S ((Q.take k).map (tRow f L T text)) (wkL Q.length k ++ [wV (cl (nx Q.length k).1 (nx Q.length k).2)]) fr' σ' ∧ Keep [N, N + 1, N + 2, N + 3] σ σ' ∧
  (∀ x, hasK K x → ∃ j : Nat, j < k ∧ (x = ((5 * j : Nat) : Int) ∨ x = ((5 * Q.length + 2 * j : Nat) : Int))) ∧ K.length ≤ 4 * k ∧ S.length ≤ k ∧ (∀ j : Nat, j < k → atK S ((5 * j : Nat) : Int) (.int 5))
 | 0, _ => ⟨fr, σ, [], [], fun m => rfl, I, Keep.refl, fun x hx => (by cases hx), Nat.le_refl _, Nat.le_refl _, fun j hj => absurd hj (Nat.not_lt_zero _)⟩
 | k + 1, hk => by
  obtain ⟨fr1, σ1, K, S, r1, I1, k1, hK, hKl, hSl, h5⟩ := run_down h hf hF hQ hroom I k (by tb_rel)
  have hp : Q[k]? = some (Q[k]'(by tb_rel)) := List.getElem?_eq_getElem _
  have C := list_cell (room := room) (M := M) (T := T) (F := F) h (k := k) (by tb_rel)
  rw [show nx Q.length k = ((3 : Int), ((5 * Q.length + 2 * k : Nat) : Int)) from if_neg (by tb_rel)] at I1
  have lr : ((Q.take k).map (tRow f L T text)).length ≤ 100 := by rw [List.length_map, List.length_take]; tb_rel
  have lw := wkL_len (n := Q.length) (k := k)
  obtain ⟨fr2, σ2, r2, I2, k2⟩ := t_visit C I1 (fun q => by obtain ⟨j, hj, q⟩ := hK _ q; tb_rel) (by tb_rel) (by tb_rel) (by tb_rel)
  have e : (wkL Q.length k ++ [wB (cl 3 ((5 * Q.length + 2 * k : Nat) : Int))]) ++ ([((2 : Int), ((5 * k : Nat) : Int)), nx Q.length (k + 1)].reverse.map fun c => wV (fAV c)) =
   (wkL Q.length (k + 1) ++ [wV (cl (nx Q.length (k + 1)).1 (nx Q.length (k + 1)).2)]) ++ [wV (cl 2 ((5 * k : Nat) : Int))] := by rw [wkL_succ]; simp [fAV]
  rw [e] at I2
  have sl := setAt_len (es := K) (k := ((5 * Q.length + 2 * k : Nat) : Int)) (v := .none)
  obtain ⟨fr3, σ3, K3, S3, r3, I3, k3, hK3, hKl3, hSl3, h53, hS3⟩ := run_row h hf hF hp I2 (fun q => by
   rcases hasK_set q with q | q
   · obtain ⟨j, hj, q⟩ := hK _ q; tb_rel
   · tb_rel) (by tb_rel) (by tb_rel) (by tb_rel) (by rw [List.length_append, wkL_len, List.length_singleton]; tb_rel) hroom
  refine ⟨fr3, σ3, K3, S3, by rw [show 7 * (k + 1) = 7 * k + 1 + 6 by tb_rel]; exact (r1.trans r2).trans r3, ?_, k1.trans (k2.trans k3), fun x hx => ?_, by tb_rel, by tb_rel, fun j hj => ?_⟩
  · rw [take_next hp, List.map_append]; exact I3
  · rcases hK3 x hx with hx | hx
    · rcases hasK_set hx with hx | hx
      · obtain ⟨j, hj, q⟩ := hK _ hx; exact ⟨j, by tb_rel, q⟩
      · exact ⟨k, by tb_rel, .inr hx.symm⟩
    · exact ⟨k, by tb_rel, .inl hx⟩
  · by_cases q : j = k
    · rw [q]; exact h53
    · exact hS3 _ _ (by tb_rel) (h5 j (by tb_rel))
theorem c3 : (2 : Int) ≠ 0 ∧ (2 : Int) ≠ 1 ∧ ((2 : Int) = 2 ∨ (2 : Int) = 3) ∧ (3 : Int) ≠ 0 ∧ (3 : Int) ≠ 1 ∧ ((3 : Int) = 2 ∨ (3 : Int) = 3) := by decide
theorem run_up (h : HeapOf f L T text Q H) (hQ : Q.length ≤ 100) (hroom : 6 * (Q.length : Int) ≤ room) {fr0 : Frame} {σ0 : Store} {t0 : Nat} {K0 S0 : List (Int × AV)} (r0 : TRun t0 fr σ fr0 σ0) (k0 : Keep [N, N + 1, N + 2, N + 3] σ σ0) (I0 : TI room M H T F N tb K0 S0 (Q.map (tRow f L T text) ++ [tL f L T text []]) (wkL Q.length Q.length) fr0 σ0)
 (hK0 : K0.length ≤ 1000) (hS0 : S0.length ≤ 1000) (h5 : ∀ j : Nat, j < Q.length → atK S0 ((5 * j : Nat) : Int) (.int 5)) : ∀ d k, k + d = Q.length →
 ∃ fr' σ' K S, TRun (t0 + d) fr σ fr' σ' ∧ TI room M H T F N tb K S ((Q.take k).map (tRow f L T text) ++ [tL f L T text (Q.drop k)]) (wkL Q.length k) fr' σ' ∧ Keep [N, N + 1, N + 2, N + 3] σ σ' ∧
  K.length ≤ 1000 + d ∧ S.length ≤ 1000 + d ∧ (∀ j : Nat, j < Q.length → atK S ((5 * j : Nat) : Int) (.int 5)) ∧ (k < Q.length → atK S ((5 * Q.length + 2 * k : Nat) : Int) (.int (6 * (d : Int) + 1)))
 | 0, k, hk => by
  have : k = Q.length := by tb_rel
  subst this
  exact ⟨fr0, σ0, K0, S0, r0, by rw [List.take_length, List.drop_length]; exact I0, k0, by tb_rel, by tb_rel, h5, fun q => absurd q (Nat.lt_irrefl _)⟩
 | d + 1, k, hk => by
  obtain ⟨fr1, σ1, K, S, r1, I1, k1, hKl, hSl, h5', ha⟩ := run_up h hQ hroom r0 k0 I0 hK0 hS0 h5 d (k + 1) (by tb_rel)
  have hp : Q[k]? = some (Q[k]'(by tb_rel)) := List.getElem?_eq_getElem _
  have C := list_cell (room := room) (M := M) (T := T) (F := F) h (k := k) (by tb_rel)
  rw [take_next hp, List.map_append, List.append_assoc, wkL_succ] at I1
  have lw := wkL_len (n := Q.length) (k := k)
  obtain ⟨fr2, σ2, r2, I2, k2⟩ := t_build (ws := [5, 6 * (d : Int) + 1]) C I1 (by tb_rel) (by tb_rel) (by rw [List.length_map, List.length_take]; tb_rel) (by tb_rel) rfl rfl (fun i c w hc hw => by
   have hi : i < 2 := (List.getElem?_eq_some_iff.mp hc).1
   rcases (show i = 0 ∨ i = 1 by tb_rel) with rfl | rfl <;> rw [← Option.some.inj hc, ← Option.some.inj hw]
   · exact ⟨c3.1, c3.2.1, .inl ⟨c3.2.2.1, h5' k (by tb_rel)⟩⟩
   · by_cases q : k + 1 = Q.length
     · rw [show nx Q.length (k + 1) = ((4 : Int), (0 : Int)) from if_pos q]
       exact ⟨c4.1, c4.2.1, .inr ⟨c4.2.2, by tb_rel⟩⟩
     · rw [show nx Q.length (k + 1) = ((3 : Int), ((5 * Q.length + 2 * (k + 1) : Nat) : Int)) from if_neg q]
       exact ⟨c3.2.2.2.1, c3.2.2.2.2.1, .inl ⟨c3.2.2.2.2.2, ha (by tb_rel)⟩⟩) (by kts_caught)
  have l1 := setAt_len (es := K) (k := ((5 * Q.length + 2 * k : Nat) : Int)) (v := .tup [.str [115], .int 0, .tup [tRow f L T text (Q[k]'(by tb_rel)), tL f L T text (Q.drop (k + 1))]])
  have l2 := setAt_len (es := S) (k := ((5 * Q.length + 2 * k : Nat) : Int)) (v := .int (1 + List.sum [5, 6 * (d : Int) + 1]))
  refine ⟨fr2, σ2, _, _, by rw [show t0 + (d + 1) = t0 + d + 1 by tb_rel]; exact r1.trans r2, ?_, k1.trans k2, by exact Nat.le_trans l1 (by tb_rel), by exact Nat.le_trans l2 (by tb_rel), fun j hj => atK_ne (by tb_rel) (h5' j hj), fun _ => ?_⟩
  · rw [List.drop_eq_getElem_cons (show k < Q.length by tb_rel)]; exact I2
  · have : (1 + List.sum [5, 6 * (d : Int) + 1]) = 6 * ((d + 1 : Nat) : Int) + 1 := by simp; tb_rel
    rw [← this]; exact atK_eq
end
end Mine
end
section
open PySem PySem.W PySem.Calls PyProof.Rows
namespace Mine
theorem x_listK {l : DL} {fr : Frame} {σ σ1 : Store} {as : List AV} {n : Nat} (h1 : l fr σ = .ok as σ1) (h2 : as.length ≤ 1000) (hn : σ1.length = n) : dList l fr σ = .ok (.loc n) (σ1 ++ [.list as]) := by rw [← hn]; exact x_list h1 h2
theorem x_dictIK {fr : Frame} {σ : Store} {n : Nat} (hn : σ.length = n) : dDictI fr σ = .ok (.loc n) (σ ++ [.dictI []]) := by rw [← hn]; rfl
section
variable {room f L : Int} {M tb A : Nat} {H Q : List (Int × Int)} {T : List (List Nat)} {text : List Nat} {F : List (Int × Int)} {σ : Store} {a t w : Int} {x : AV}
theorem take_core (mach : Mach room M H σ) (sym : Sym T F σ) (h0 : t ≠ 0) (h1 : t ≠ 1) (hrun : ∀ fr0 σ0, TI room M H T F σ.length tb [] [] [] [wV (cl t w)] fr0 σ0 → ∃ n fr' σ' K S, n < 100000 ∧ TRun n fr0 σ0 fr' σ' ∧ TI room M H T F σ.length tb K S [x] [] fr' σ' ∧ Keep [σ.length, σ.length + 1, σ.length + 2, σ.length + 3] σ0 σ') :
 ∃ σ', sp_st_take_term [.loc M, cl t w, .loc tb] σ = .ok x σ' ∧ Keep [] σ σ' := by
 have lM := mach.lt
 have l1 : (σ ++ [AO.dictI []]).length = σ.length + 1 := by simp
 have l2 : ((σ ++ [AO.dictI []]) ++ [AO.dictI []]).length = σ.length + 2 := by simp
 have l3 : (((σ ++ [AO.dictI []]) ++ [AO.dictI []]) ++ [AO.list []]).length = σ.length + 3 := by simp
 have kk : Keep ([] : List Nat) σ (((σ ++ [AO.dictI []]) ++ [AO.dictI []]) ++ [AO.list []]) := Keep.add.trans (Keep.add.trans Keep.add)
 have m3 := mach.keep kk (by kts_caught) (by kts_caught)
 have st3 := m3.st
 have gl := globalise_ok (t := t) (v := w) m3 h0 h1
 have k4 : Keep ([] : List Nat) σ ((((σ ++ [AO.dictI []]) ++ [AO.dictI []]) ++ [AO.list []]) ++ [AO.list [wV (cl t w)]]) := kk.trans Keep.add
 have g1 : (((σ ++ [AO.dictI []]) ++ [AO.dictI []]) ++ [AO.list []])[σ.length]? = some (.dictI []) := by rw [List.getElem?_append_left (by kts_caught), List.getElem?_append_left (by kts_caught)]; exact getL_new
 have g2 : (((σ ++ [AO.dictI []]) ++ [AO.dictI []]) ++ [AO.list []])[σ.length + 1]? = some (.dictI []) := by rw [← l1, List.getElem?_append_left (by kts_caught)]; exact getL_new
 have g3 : (((σ ++ [AO.dictI []]) ++ [AO.dictI []]) ++ [AO.list []])[σ.length + 2]? = some (.list []) := by rw [← l2]; exact getL_new
 obtain ⟨n, fr', σ', K, S, hn, hr, I, k'⟩ := hrun (fT M tb (σ.length) (some (cl t w)) none none none none none none none) ((((σ ++ [AO.dictI []]) ++ [AO.dictI []]) ++ [AO.list []]) ++ [AO.list [wV (cl t w)]])
  ⟨m3.keep (Keep.add (t := [])) (by kts_caught) (by kts_caught), sym.keep k4 (by kts_caught), by rw [List.getElem?_append_left (by rw [l3]; tb_rel)]; exact g1, by rw [List.getElem?_append_left (by rw [l3]; tb_rel)]; exact g2, by rw [List.getElem?_append_left (by rw [l3]; tb_rel)]; exact g3, by rw [← l3]; exact getL_new, by tb_rel, _, _, _, _, _, _, _, _, rfl⟩
 obtain ⟨mach', sym', kn, sz, rs, wk, nM, x1, x7, x8, x9, x10, x11, x12, x13, rfl⟩ := I
 have ln := len_list wk (by kts_caught)
 have hw := Run.done hr (n := fuel) (by unfold fuel; exact hn) (by (repeat' first | ((with_reducible show cmpF .Gt _ _ _ = _); exact rfl) | (with_reducible first | exact x_cst | exact x_nil | exact x_andret | refine' x_next ?_ | refine' x_seq ?_ ?_ | refine' x_assign ?_ | refine' x_ret ?_ | refine' x_bval ?_ | refine' x_cmp ?_ ?_ ?_ | refine' x_item ?_ ?_ ?_ | refine' x_tup ?_ ?_ | refine' x_call ?_ ?_ | refine' x_meth ?_ ?_ ?_ ?_ | refine' x_cons ?_ ?_) | ((with_reducible refine' x_var ?h); case h => exact rfl) | ((with_reducible show _ = _); with_reducible assumption) | ((with_reducible show Res.ok _ _ = _); exact rfl) | ((with_reducible show SRes.ok _ _ _ = _); exact rfl) | (exact Nat.le_of_ble_eq_true rfl)))
 have it : itemF (.loc (σ.length + 2)) (.int 0) σ' = .ok x σ' := itemF_list rs (by decide) rfl (by kts_caught)
 refine ⟨σ', x_func rfl (by unfold d_st_take_term; (repeat' first | ((with_reducible refine' x_dictIK ?_)) | ((with_reducible show List.length _ = _); first | with_reducible exact l1 | with_reducible exact l2 | with_reducible exact l3 | exact rfl) | ((with_reducible refine' x_listK ?_ ?_ ?_)) | ((with_reducible show sWhile _ _ _ _ _ = _); exact hw) | (with_reducible first | exact x_cst | exact x_nil | exact x_andret | refine' x_next ?_ | refine' x_seq ?_ ?_ | refine' x_assign ?_ | refine' x_ret ?_ | refine' x_bval ?_ | refine' x_cmp ?_ ?_ ?_ | refine' x_item ?_ ?_ ?_ | refine' x_tup ?_ ?_ | refine' x_call ?_ ?_ | refine' x_meth ?_ ?_ ?_ ?_ | refine' x_cons ?_ ?_) | ((with_reducible refine' x_var ?h); case h => exact rfl) | ((with_reducible show _ = _); with_reducible assumption) | ((with_reducible show Res.ok _ _ = _); exact rfl) | ((with_reducible show SRes.ok _ _ _ = _); exact rfl) | (exact Nat.le_of_ble_eq_true rfl))), k4.new k' (by kts_caught)⟩
end
end Mine
end
section
open PySem PySem.W PySem.Calls PyProof.Rows
namespace Mine
noncomputable def fN (T : List (List Nat)) (F : List (Int × Int)) : Int := ((ix F (((ix T dS : Nat) : Int), 4) : Nat) : Int)
section
variable {room f L : Int} {M A : Nat} {H Q : List (Int × Int)} {T T' : List (List Nat)} {text : List Nat} {F : List (Int × Int)} {σ : Store} {v : AV}
theorem take_ok (out : Out room M text T T' F H Q v σ) (ar : Ar A M σ) (hQ : Q.length ≤ 100) (hroom : 7 * (Q.length : Int) ≤ room) : ∃ σ', sp_ar_take [.loc A, v] σ = .ok (tL (fN T' F) text.length T' text Q) σ' ∧ Keep [] σ σ' := by
 obtain ⟨fs, ha, _, h15⟩ := ar.at_
 have kt : Keep ([] : List Nat) σ (σ ++ [.dictI []]) := Keep.add
 have mach := out.mach.keep kt (by kts_caught) (by kts_caught)
 have sym := out.sym.keep kt (by kts_caught)
 have i15 := attr_ok ha (by decide) h15
 have st := out.mach.st
 have st2 := mach.st
 have core : ∃ σ', sp_st_take_term [.loc M, v, .loc σ.length] (σ ++ [.dictI []]) = .ok (tL (fN T' F) text.length T' text Q) σ' ∧ Keep [] (σ ++ [.dictI []]) σ' := by
  by_cases hne : Q = []
  · subst hne
    rw [out.nil rfl]
    exact take_core mach sym (by decide) (by decide) fun fr0 σ0 I => by
     obtain ⟨fr', σ', r, I', k'⟩ := t_const (res := []) (w := []) (.inl ⟨rfl, rfl⟩) I (by decide) (by decide)
     exact ⟨1, fr', σ', [], [], by decide, r, I', k'⟩
  · obtain ⟨hv, hd, f, hf, hF, hfe, hh, hm⟩ := out.cons hne
    have hl : 0 < Q.length := Nat.pos_of_ne_zero fun q => hne (List.eq_nil_of_length_eq_zero q)
    rw [show fN T' F = f from hfe.symm, hv]
    exact take_core mach sym (by decide) (by decide) fun fr0 σ0 I => by
     have e0 : nx Q.length 0 = ((3 : Int), ((5 * Q.length : Nat) : Int)) := if_neg (by tb_rel)
     obtain ⟨fr1, σ1, K, S, r1, I1, k1, hK, hKl, hSl, h5⟩ := run_down (room := room) hh hf hF hQ (by tb_rel) (by rw [e0]; exact I) Q.length (Nat.le_refl _)
     rw [List.take_length, show nx Q.length Q.length = ((4 : Int), (0 : Int)) from if_pos rfl] at I1
     obtain ⟨fr2, σ2, r2, I2, k2⟩ := t_const (.inl ⟨rfl, rfl⟩) I1 (by rw [List.length_map]; tb_rel) (by rw [wkL_len]; tb_rel)
     obtain ⟨fr3, σ3, K3, S3, r3, I3, k3, _⟩ := run_up hh hQ (by tb_rel) (r1.trans r2) (k1.trans k2) I2 (by tb_rel) (by tb_rel) h5 Q.length 0 (by tb_rel)
     exact ⟨7 * Q.length + 1 + Q.length, fr3, σ3, K3, S3, by tb_rel, r3, I3, k3⟩
 obtain ⟨σ', e, k⟩ := core
 exact ⟨σ', x_func rfl (by unfold d_ar_take; (repeat' first | (with_reducible first | exact x_nil | exact x_andret | exact x_dictI | refine' x_seq ?_ ?_ | refine' x_ret ?_ | refine' x_attr ?_ ?_ | refine' x_meth ?_ ?_ ?_ ?_ | refine' x_cons ?_ ?_) | ((with_reducible refine' x_var ?h); case h => exact rfl) | ((with_reducible show _ = _); with_reducible assumption) | ((with_reducible show Res.ok _ _ = _); exact rfl) | ((with_reducible show SRes.ok _ _ _ = _); exact rfl))), kt.trans k⟩
end
end Mine
end
section
open PySem PySem.W PySem.Calls PyProof.Rows
namespace Mine
theorem add_id {κ : Type} [DecidableEq κ] {T : List κ} {t : κ} (h : t ∈ T) : add T t = T := if_pos h
section
variable {q : Nat} {ps : List (Int × Int)} {T : List (List Nat)} {text : List Nat} {sub : Option (List Nat)} {F : List (Int × Int)} {σ : Store}
theorem listed_ok (S : Sym T F σ) (hT : T.length < 900) (hF : F.length < 900) (hq : σ[q]? = some (.list (ps.map fAV))) (hq9 : 9 ≤ q) (hl : text.length ≤ 9) (hps : ps.length ≤ 300)
 (hb : ∀ p ∈ ps, 0 ≤ p.1 ∧ 0 ≤ p.2 ∧ p.1 + p.2 ≤ text.length) (hm : ∀ p ∈ ps, keepP text sub p = true → part text p ∈ T ∧ dS ∈ T ∧ (((ix T dS : Nat) : Int), (4 : Int)) ∈ F) :
 ∃ σ', sp_law_listed [.loc 4, .str text, .loc q, sAV sub] σ = .ok (tL (fN T F) text.length T text (ps.filter (keepP text sub))) σ' ∧ Sym T F σ' ∧ Keep [5, 6, 7, 8] σ σ' := by
 have sl0 : sliceF (.loc q) .none .none (.int (-1)) σ = .ok (.loc σ.length) (σ ++ [.list (ps.reverse.map fAV)]) := by
  conv => lhs; whnf
  rw [hq, List.map_reverse]; exact if_pos ⟨rfl, by rw [List.length_map]; tb_rel⟩
 have k0 : Keep ([] : List Nat) σ (σ ++ [.list (ps.reverse.map fAV)]) := Keep.add
 have S0 := S.keep k0 (by kts_caught)
 have lq : q < σ.length := (List.getElem?_eq_some_iff.mp hq).1
 obtain ⟨fr', σ', hf, y5, y6, y7, y8, hfr, S', k'⟩ := forL_rule (chk := chkL σ.length (ps.reverse.map fAV)) (g := (gTup2 (gName 5) (gName 6))) (body := (SQ (QA 7 (dSlice (DV 1) (DV 5) (dBin .Add (DV 5) (DV 6)) (DC .none))) (SQ (sIf (bOr (bVal (dCmp .Is (DV 3) (DC .none))) (bOr (bVal (dCmp .Eq (DV 7) (DV 3))) (fun _ σ => Res.ok false σ))) (SQ (QA 8 (dTup (LC (dTup (LC (DC (.str [105])) (LC (DV 5) LN))) (LC (dTup (LC (DC (.str [105])) (LC (DV 6) LN))) (LC (dTup (LC (DC (.str [105])) (LC (dBin .Sub (dBin .Sub (dCall spLen (LC (DV 1) LN)) (DV 5)) (DV 6)) LN))) (LC (dTup (LC (DC (.str [97])) (LC (dMeth 0 sp_sy_atom (DV 0) (LC (DV 7) LN)) LN))) LN)))))) (SQ (QA 4 (dTup (LC (DC (.str [115])) (LC (DC (.int (0))) (LC (dTup (LC (dTup (LC (DC (.str [115])) (LC (dMeth 0 sp_sy_func (DV 0) (LC (DC (.str [36, 115])) (LC (DC (.int 4)) LN))) (LC (DV 8) LN)))) (LC (DV 4) LN))) LN))))) SN)) SN) SN)))
  (fun j fr σ' => ∃ y5 y6 y7 y8, fr = [some (.loc 4), some (.str text), some (.loc q), some (sAV sub), some (tL (fN T F) text.length T text ((ps.reverse.take j).reverse.filter (keepP text sub))), y5, y6, y7, y8] ∧ Sym T F σ' ∧ Keep [5, 6, 7, 8] (σ ++ [.list (ps.reverse.map fAV)]) σ')
  (ps.reverse.map fAV) 0 (fr := [some (.loc 4), some (.str text), some (.loc q), some (sAV sub), some (aT 0), none, none, none, none]) (σ := σ ++ [.list (ps.reverse.map fAV)]) ⟨_, _, _, _, rfl, S0, Keep.refl⟩ (by
   rintro j y fr σ2 hj ⟨y5, y6, y7, y8, rfl, S2, k2⟩
   obtain ⟨p, hp, rfl⟩ := map_get hj
   rw [Nat.zero_add] at *
   have hpm : p ∈ ps := List.mem_reverse.mp (List.mem_of_getElem? hp)
   obtain ⟨h0, h1, h2⟩ := hb p hpm
   have sl := slice_part (text := text) (i := p.1) (w := p.2) (σ := σ2) h0 h1 h2 (by tb_rel)
   rw [take_next hp, List.reverse_append, show [p].reverse ++ (ps.reverse.take j).reverse = p :: (ps.reverse.take j).reverse from rfl]
   have gl : (σ ++ [AO.list (ps.reverse.map fAV)])[σ.length]? = some (.list (ps.reverse.map fAV)) := getL_new
   have n8 : 8 < σ.length := (List.getElem?_eq_some_iff.mp S.fnums).1
   by_cases kp : keepP text sub p = true
   · rw [List.filter_cons_of_pos kp]
     obtain ⟨m1, m2, m3⟩ := hm p hpm kp
     obtain ⟨σ3, e3, S3, k3⟩ := atom_ok (t := part text (p.1, p.2)) S2 hT
     rw [add_id m1] at e3 S3
     obtain ⟨σ4, e4, S4, k4⟩ := func_ok (t := dS) (n := 4) S3 hT hF
     rw [add_id m2] at e4 S4
     rw [add_id m3] at e4 S4
     have ln := len_str (σ := σ2) (xs := text) (by tb_rel)
     have i4 := S2.inst
     have i43 := S3.inst
     have kf := k2.trans ((k3.mono (by kts_caught)).trans k4)
     have ck := chk_ok (kf.at_ _ _ (by kts_caught) gl)
     have hfit : fitB sub (part text (p.1, p.2)) = true := kp
     refine ⟨_, rfl, [some (.loc 4), some (.str text), some (.loc q), some (sAV sub), _, some (.int p.1), some (.int p.2), _, _], σ4, .inl (by (repeat' first | with_reducible exact sl | ((with_reducible show bOr _ _ _ _ = _); exact fit_bor rfl rfl) | ((with_reducible show sp_sy_func _ _ = _); exact e4) | (with_reducible first | exact x_cst | exact x_nil | exact x_snil | exact x_andret | exact x_add | exact x_sub | refine' x_next ?_ | refine' x_seq ?_ ?_ | refine' x_assign ?_ | refine' x_ret ?_ | refine' x_sif ?_ ?_ | refine' x_bin ?_ ?_ ?_ | refine' x_neg ?_ | refine' x_tup ?_ ?_ | refine' x_slice ?_ ?_ ?_ ?_ ?_ | refine' x_call ?_ ?_ | refine' x_meth ?_ ?_ ?_ ?_ | refine' x_cons ?_ ?_) | ((with_reducible refine' x_var ?h); case h => exact rfl) | ((with_reducible refine' x_snil' ?h); case h => exact rfl) | ((with_reducible refine' if_t ?h ?_); case h => top_raise) | ((with_reducible refine' if_f ?h ?_); case h => top_raise) | ((with_reducible show _ = _); with_reducible assumption) | ((with_reducible show Res.ok _ _ = _); exact rfl) | ((with_reducible show SRes.ok _ _ _ = _); exact rfl) | (exact Nat.le_of_ble_eq_true rfl))), ck, _, _, _, _, rfl, S4, kf⟩
   · rw [List.filter_cons_of_neg kp]
     have ck := chk_ok (k2.at_ _ _ (by kts_caught) gl)
     have hfit : fitB sub (part text (p.1, p.2)) = false := Bool.eq_false_iff.mpr kp
     exact ⟨_, rfl, [some (.loc 4), some (.str text), some (.loc q), some (sAV sub), some _, some (.int p.1), some (.int p.2), _, _], σ2, .inl (by (repeat' first | with_reducible exact sl | ((with_reducible show bOr _ _ _ _ = _); exact fit_bor rfl rfl) | (with_reducible first | exact x_cst | exact x_nil | exact x_snil | exact x_andret | exact x_add | exact x_sub | refine' x_next ?_ | refine' x_seq ?_ ?_ | refine' x_assign ?_ | refine' x_ret ?_ | refine' x_sif ?_ ?_ | refine' x_bin ?_ ?_ ?_ | refine' x_neg ?_ | refine' x_tup ?_ ?_ | refine' x_slice ?_ ?_ ?_ ?_ ?_ | refine' x_call ?_ ?_ | refine' x_meth ?_ ?_ ?_ ?_ | refine' x_cons ?_ ?_) | ((with_reducible refine' x_var ?h); case h => exact rfl) | ((with_reducible refine' x_snil' ?h); case h => exact rfl) | ((with_reducible refine' if_t ?h ?_); case h => top_raise) | ((with_reducible refine' if_f ?h ?_); case h => top_raise) | ((with_reducible show _ = _); with_reducible assumption) | ((with_reducible show Res.ok _ _ = _); exact rfl) | ((with_reducible show SRes.ok _ _ _ = _); exact rfl) | (exact Nat.le_of_ble_eq_true rfl))), ck, _, _, _, _, rfl, S2, k2⟩)
 rw [List.length_map, Nat.zero_add, List.take_length, List.reverse_reverse] at hfr
 subst hfr
 exact ⟨σ', x_func rfl (by unfold d_law_listed; (repeat' first | with_reducible refine' x_forT ?_ ?_ | ((with_reducible show sliceF _ _ _ _ _ = _); exact sl0) | ((with_reducible show sIterL _ _ _ _ _ = _); exact iterL_list getL_new hf) | (with_reducible first | exact x_cst | exact x_nil | exact x_snil | exact x_andret | exact x_add | exact x_sub | refine' x_next ?_ | refine' x_seq ?_ ?_ | refine' x_assign ?_ | refine' x_ret ?_ | refine' x_sif ?_ ?_ | refine' x_bin ?_ ?_ ?_ | refine' x_neg ?_ | refine' x_tup ?_ ?_ | refine' x_slice ?_ ?_ ?_ ?_ ?_ | refine' x_call ?_ ?_ | refine' x_meth ?_ ?_ ?_ ?_ | refine' x_cons ?_ ?_) | ((with_reducible refine' x_var ?h); case h => exact rfl) | ((with_reducible refine' x_snil' ?h); case h => exact rfl) | ((with_reducible refine' if_t ?h ?_); case h => top_raise) | ((with_reducible refine' if_f ?h ?_); case h => top_raise) | ((with_reducible show _ = _); with_reducible assumption) | ((with_reducible show Res.ok _ _ = _); exact rfl) | ((with_reducible show SRes.ok _ _ _ = _); exact rfl) | (exact Nat.le_of_ble_eq_true rfl))), S', (k0.mono (by kts_caught)).trans k'⟩
end
end Mine
end
section
open PySem PySem.W PySem.Calls PyProof.Rows
namespace Mine
theorem kq_pair {m : Nat} {c : Nat} {v : Int} (h : PyData.strOk ⟨[c].toArray⟩ = true) : kqdOk (m + 1) (AV.tup [.str [c], .int v]).dat = true := by
 simp [AV.dat, AV.dats, kqdOk]; exact h
theorem kq_i : PyData.strOk ⟨[105].toArray⟩ = true := by decide +kernel
theorem kq_a : PyData.strOk ⟨[97].toArray⟩ = true := by decide +kernel
theorem kq_s : PyData.strOk ⟨[115].toArray⟩ = true := by decide +kernel
theorem kq_row {f L : Int} {T : List (List Nat)} {text : List Nat} {p : Int × Int} {m : Nat} : kqdOk (m + 3) (tRow f L T text p).dat = true := by
 show ([Dat.str ⟨[115].toArray⟩, .int f, .tuple [(iT p.1).dat, (iT p.2).dat, (iT (L - p.1 - p.2)).dat, (aT ((ix T (part text p) : Nat) : Int)).dat]].all (kqdOk (m + 2))) = true
 have h : kqdOk (m + 2) (.tuple [(iT p.1).dat, (iT p.2).dat, (iT (L - p.1 - p.2)).dat, (aT ((ix T (part text p) : Nat) : Int)).dat]) = true := by
  show ([(iT p.1).dat, (iT p.2).dat, (iT (L - p.1 - p.2)).dat, (aT ((ix T (part text p) : Nat) : Int)).dat].all (kqdOk (m + 1))) = true
  rw [List.all_cons, List.all_cons, List.all_cons, List.all_cons, kq_pair kq_i, kq_pair kq_i, kq_pair kq_i, kq_pair kq_a]; rfl
 rw [List.all_cons, List.all_cons, List.all_cons, h]; exact Bool.and_eq_true_iff.mpr ⟨kq_s, rfl⟩
theorem kq_tL {f L : Int} {T : List (List Nat)} {text : List Nat} : ∀ (Q : List (Int × Int)) (m : Nat), kqdOk (m + 2 * Q.length + 3) (tL f L T text Q).dat = true
 | [], m => kq_pair kq_a
 | p :: r, m => by
  rw [List.length_cons, show m + 2 * (r.length + 1) + 3 = (m + 2 * r.length + 3) + 1 + 1 by tb_rel]
  show ([Dat.str ⟨[115].toArray⟩, .int 0, .tuple [(tRow f L T text p).dat, (tL f L T text r).dat]].all (kqdOk ((m + 2 * r.length + 3) + 1))) = true
  have h : kqdOk ((m + 2 * r.length + 3) + 1) (.tuple [(tRow f L T text p).dat, (tL f L T text r).dat]) = true := by
   show ([(tRow f L T text p).dat, (tL f L T text r).dat].all (kqdOk (m + 2 * r.length + 3))) = true
   rw [List.all_cons, List.all_cons, kq_row, kq_tL r m]; rfl
  rw [List.all_cons, List.all_cons, List.all_cons, h]; exact Bool.and_eq_true_iff.mpr ⟨kq_s, rfl⟩
open Classical in
theorem eqAs_self {x : List AV} : eqAs x x = true := by unfold eqAs; exact decide_eq_true rfl
theorem cmp_self {x : List AV} {σ : Store} (h : plain (.tup x) = true) : cmpF .Eq (.tup x) (.tup x) σ = .ok (.bool true) σ := by
 show (if (plain (.tup x) && plain (.tup x)) = true then Res.ok (AV.bool (eqAs x x)) σ else .stuck) = _
 rw [h, eqAs_self]; rfl
theorem tL_self {f L : Int} {T : List (List Nat)} {text : List Nat} {Q : List (Int × Int)} {σ : Store} (h : Q.length ≤ 50) : cmpF .Eq (tL f L T text Q) (tL f L T text Q) σ = .ok (.bool true) σ := by
 have hp : plain (tL f L T text Q) = true := by
  unfold plain
  have := kq_tL (f := f) (L := L) (T := T) (text := text) Q (117 - 2 * Q.length)
  rw [show 117 - 2 * Q.length + 2 * Q.length + 3 = 120 by tb_rel] at this
  exact this
 cases Q with
 | nil => exact cmp_self hp
 | cons p r => exact cmp_self hp
theorem sub_ok {room b z a : Int} {A M : Nat} {T : List (List Nat)} {F : List (Int × Int)} {σ : Store} {text : List Nat} {sub : Option (List Nat)} (ar : Ar A M σ) (mach : Mach room M [] σ) (sym : Sym T F σ) (hA : 9 ≤ A ∧ A ≠ M + 1)
 (hT : T.length < 500) (hF : F.length < 800) (hF0 : F[0]? = some (1, 2)) (hl : text.length ≤ 6) (hu : ∀ u, sub = some u → u.length ≤ 9) (hb : -1 ≤ b) (hb' : b ≤ 9) (hs : -1 ≤ z) (hs' : z ≤ 9) (ha : -1 ≤ a) (ha' : a ≤ 9)
 (hroom : Int.fdiv (((text.length : Int) + 1) * ((text.length : Int) + 2)) 2 * 7 ≤ room) : ∃ v σ5 T' F' H', sp_sub_atom_rows [.loc A, .str text, .int b, .int z, .int a, sAV sub] σ = .ok v σ5 ∧
  Out room M text T T' F' H' ((pL text.length b z a (text.length + 1)).filter (keepP text sub)) v σ5 ∧ F'.length ≤ F.length + 1 ∧ F'[0]? = some (1, 2) ∧ Keep [5, 6, 7, 8, M + 1] σ σ5 := by
 cases sub with
 | none =>
  obtain ⟨v, σ5, T', H', e, o, k⟩ := sub_none_ok ar mach sym hA hT hF hF0 hl hb hb' hs hs' ha ha' hroom
  exact ⟨v, σ5, T', _, H', e, o, add_len, add_get0 hF0, k⟩
 | some u =>
  by_cases hz : z = -1 ∨ z = u.length
  · obtain ⟨v, σ5, T', H', e, o, k⟩ := sub_some_ok ar mach sym hA hT hF hF0 hl hb hb' hz (hu u rfl) ha ha' hroom
    rw [← pL_keep hz (Nat.le_refl _)] at o
    exact ⟨v, σ5, T', _, H', e, o, add_len, add_get0 hF0, k⟩
  · have h1 : z ≠ -1 := fun q => hz (.inl q)
    have h2 : z ≠ u.length := fun q => hz (.inr q)
    refine ⟨_, σ, T, F, [], sub_none0_ok mach h1 h2 (hu u rfl), ?_, by tb_rel, hF0, Keep.refl⟩
    rw [pL_keep0 h1 h2]
    exact ⟨sym, mach, fun _ => rfl, fun q => absurd rfl q, by tb_rel, ⟨[], by rw [List.append_nil]⟩⟩
end Mine
end
section
open PySem PySem.W PySem.Calls PyProof.Rows
namespace Mine
theorem x_tryOk {d : DS} {fr fr1 : Frame} {σ σ1 : Store} (h : d fr σ = .ok .next fr1 σ1) : sTryOk d fr σ = .ok .next fr1 σ1 := by unfold sTryOk; rw [h]
theorem x_andB2 {d e : DE} {fr : Frame} {σ σ1 : Store} {z t : Bool} (h1 : d fr σ = .ok (.bool z) σ1) (h2 : e fr σ1 = .ok (.bool t) σ1) : dAnd d e fr σ = .ok (.bool (z && t)) σ1 := by unfold dAnd; rw [h1]; cases z; rfl; exact h2
theorem cmp_lists {m n : Nat} {x y : List AV} {σ : Store} (h1 : σ[m]? = some (.list x)) (h2 : σ[n]? = some (.list y)) (p1 : plain (.tup x) = true) (p2 : plain (.tup y) = true) : cmpF .Eq (.loc m) (.loc n) σ = .ok (.bool (eqAs x y)) σ := by
 show (match σ[m]?, σ[n]? with
  | some (.list x), some (.list y) => if (plain (.tup x) && plain (.tup y)) = true then Res.ok (AV.bool (eqAs x y)) σ else .stuck
  | _, _ => .stuck) = _
 rw [h1, h2]
 exact if_pos (by rw [p1, p2]; rfl)
theorem plain_ints {xs : List Int} : plain (.tup (xs.map .int)) = true := by
 unfold plain
 show ((AV.dats (xs.map .int)).all (kqdOk 119)) = true
 induction xs with
 | nil => rfl
 | cons x xs ih => show (kqdOk 119 (.int x) && (AV.dats (xs.map .int)).all (kqdOk 119)) = true; rw [ih]; rfl
noncomputable def areasAt (n : Nat) (room : Int) (fs : List (Nat × AV)) : Store := [.list [], .inst 3 fs, .inst 2 [(5, .loc 4), (6, .int room), (7, .loc (n + 3)), (8, .loc (n + 4)), (9, .loc (n + 5)), (10, .int 0), (11, .int 0)], .list [], .list [], .list [], .list [.tup [.int 5, .int 0]], .list [], .dictI []]
theorem areas_ok {T : List (List Nat)} {F : List (Int × Int)} {σ : Store} {room : Int} (S : Sym T F σ) : ∃ fs σB, sp_cAreas [.loc 4, .loc σ.length, .int room] (σ ++ [.list []]) = .ok (.loc (σ.length + 1)) σB ∧ Keep [] σ σB ∧ Keep [] σ (σB ++ [.list ([-1, -1, -1].map .int)]) ∧ Sym T F (σB ++ [.list ([-1, -1, -1].map .int)]) ∧
 (σB ++ [.list ([-1, -1, -1].map .int)])[σ.length + 1]? = some (.inst 3 fs) ∧ Ar (σ.length + 1) (σ.length + 2) (σB ++ [.list ([-1, -1, -1].map .int)]) ∧ Mach room (σ.length + 2) [] (σB ++ [.list ([-1, -1, -1].map .int)]) := by
 refine Classical.byContradiction fun hG => ?_
 obtain ⟨fs, e, h5, h15⟩ := areas_new (σ := σ) (room := room)
 refine hG ?_
 have n8 : 8 < σ.length := (List.getElem?_eq_some_iff.mp S.fnums).1
 have k : Keep ([] : List Nat) σ (σ ++ areasAt σ.length room fs) := Keep.add
 have k2 : Keep ([] : List Nat) (σ ++ areasAt σ.length room fs) ((σ ++ areasAt σ.length room fs) ++ [.list ([-1, -1, -1].map .int)]) := Keep.add
 have a1 := k2.at_ _ _ (by kts_caught) (getA (σ := σ) (q := areasAt σ.length room fs) (j := 1) rfl)
 have a2 := k2.at_ _ _ (by kts_caught) (getA (σ := σ) (q := areasAt σ.length room fs) (j := 2) rfl)
 have a3 := k2.at_ _ _ (by kts_caught) (getA (σ := σ) (q := areasAt σ.length room fs) (j := 3) rfl)
 exact ⟨fs, σ ++ areasAt σ.length room fs, e, k, k.trans k2, S.keep (k.trans k2) (by kts_caught), a1, ⟨fs, a1, h5, h15⟩, ⟨a2, a3, by tb_rel, by simp⟩⟩
theorem rows_right_ok {room b z a : Int} {W : Nat} {T : List (List Nat)} {F : List (Int × Int)} {σ : Store} {text : List Nat} {sub : Option (List Nat)} (sym : Sym T F σ) (hW : σ[W]? = some (.list ([b, z, a].map .int))) (hW9 : 9 ≤ W)
 (hT : T.length < 500) (hF : F.length < 700) (hF0 : F[0]? = some (1, 2)) (hl : text.length ≤ 6) (hu : ∀ u, sub = some u → u.length ≤ 9) (hb : -1 ≤ b) (hb' : b ≤ 9) (hs : -1 ≤ z) (hs' : z ≤ 9) (ha : -1 ≤ a) (ha' : a ≤ 9)
 (hroom : Int.fdiv (((text.length : Int) + 1) * ((text.length : Int) + 2)) 2 * 7 ≤ room) : ∃ σ' T' F', sp_law_rows_right [.loc 4, .str text, .loc W, sAV sub, .int room] σ = .ok (.bool true) σ' ∧
  Sym T' F' σ' ∧ T'.length ≤ T.length + 30 ∧ F'.length ≤ F.length + 1 ∧ F'[0]? = some (1, 2) ∧ Keep [5, 6, 7, 8] σ σ' := by
 refine Classical.byContradiction fun hG => ?_
 obtain ⟨fs, σB, eA, kA, kB, SB, hA, arB, mB⟩ := areas_ok (room := room) sym
 refine hG ?_
 have n8 : 8 < σ.length := (List.getElem?_eq_some_iff.mp sym.fnums).1
 have hWl : W < σ.length := (List.getElem?_eq_some_iff.mp hW).1
 have cnt := cnt_is hl
 have ctr := tri_is hl
 have hWB := kB.at_ W _ (by kts_caught) hW
 have ceq := cmp_lists hWB (getL_new (σ := σB) (o := .list ([-1, -1, -1].map .int))) plain_ints plain_ints
 have w0 : itemF (.loc W) (.int 0) (σB ++ [.list ([-1, -1, -1].map .int)]) = .ok (.int b) (σB ++ [.list ([-1, -1, -1].map .int)]) := itemF_list hWB (by decide) rfl (by kts_caught)
 have w1 : itemF (.loc W) (.int 1) (σB ++ [.list ([-1, -1, -1].map .int)]) = .ok (.int z) (σB ++ [.list ([-1, -1, -1].map .int)]) := itemF_list hWB (by decide) rfl (by kts_caught)
 have w2 : itemF (.loc W) (.int 2) (σB ++ [.list ([-1, -1, -1].map .int)]) = .ok (.int a) (σB ++ [.list ([-1, -1, -1].map .int)]) := itemF_list hWB (by decide) rfl (by kts_caught)
 refine Classical.byContradiction fun hG => ?_
 obtain ⟨v, σ5, T', F', H', e5, out, hFl, hF0', k5⟩ := sub_ok (sub := sub) arB mB SB ⟨by tb_rel, by tb_rel⟩ hT (by tb_rel) hF0 hl hu hb hb' hs hs' ha ha' hroom
 refine hG ?_
 have hpl := pL_len (L := text.length) (b := b) (s := z) (a := a) (text.length + 1)
 have hfl := List.length_filter_le (keepP text sub) (pL text.length b z a (text.length + 1))
 refine Classical.byContradiction fun hG => ?_
 obtain ⟨σ6, e6, k6⟩ := take_ok out (arB.keep k5 (by kts_caught)) (by tb_rel) (by tb_rel)
 refine hG ?_
 have S6 := out.sym.keep k6 (by kts_caught)
 have kBl := kB.len
 have k06 : Keep [5, 6, 7, 8] σ σ6 := (kB.mono (by kts_caught)).new (k5.trans (k6.mono (by kts_caught))) (by kts_caught)
 have hW6 := k06.at_ W _ (by kts_caught) hW
 have x0 : itemF (.loc W) (.int 0) σ6 = .ok (.int b) σ6 := itemF_list hW6 (by decide) rfl (by kts_caught)
 have x1 : itemF (.loc W) (.int 1) σ6 = .ok (.int z) σ6 := itemF_list hW6 (by decide) rfl (by kts_caught)
 have x2 : itemF (.loc W) (.int 2) σ6 = .ok (.int a) σ6 := itemF_list hW6 (by decide) rfl (by kts_caught)
 have e7 := parts_ok (L := text.length) (b := b) (s := z) (a := a) (σ := σ6) (by tb_rel) (by tb_rel)
 rw [show ((text.length : Int) + 1).toNat = text.length + 1 by tb_rel, pL_is] at e7
 have k7 : Keep ([] : List Nat) σ6 (σ6 ++ [.list ((pL text.length b z a (text.length + 1)).map fAV)]) := Keep.add
 have S7 := S6.keep k7 (by kts_caught)
 have l6 := k06.len
 have hTl := out.lenT
 obtain ⟨σ8, e8, S8, k8⟩ := listed_ok (sub := sub) (text := text) S7 (by tb_rel) (by tb_rel) (getL_new (σ := σ6) (o := .list ((pL text.length b z a (text.length + 1)).map fAV))) (by tb_rel) (by tb_rel) (by tb_rel) (fun p hp => by have := pL_mem hp; exact ⟨this.1, this.2.1, this.2.2.1⟩) (fun p hp kp => by
  have hm : p ∈ (pL text.length b z a (text.length + 1)).filter (keepP text sub) := List.mem_filter.mpr ⟨hp, kp⟩
  refine Classical.byContradiction fun hG => ?_
  obtain ⟨_, hd, f, _, hFf, _, _, hpm⟩ := out.cons (fun q => by rw [q] at hm; cases hm)
  refine hG ?_
  exact ⟨hpm p hm, hd, List.mem_of_getElem? hFf⟩)
 have hfull : (eqAs ([b, z, a].map .int) ([-1, -1, -1].map .int) && (isNone (sAV sub) && decide (room < Int.fdiv (((text.length : Int) + 1) * ((text.length : Int) + 2)) 2 * 7))) = false := by
  rw [decide_eq_false (by tb_rel), Bool.and_false, Bool.and_false]
 have hfin := tL_self (f := fN T' F') (L := text.length) (T := T') (text := text) (Q := (pL text.length b z a (text.length + 1)).filter (keepP text sub)) (σ := σ8) (by tb_rel)
 have ln := fun σ => len_str (σ := σ) (xs := text) (by tb_rel)
 have hnf : (!(eqAs ([b, z, a].map .int) ([-1, -1, -1].map .int) && (isNone (sAV sub) && decide (room < Int.fdiv (((text.length : Int) + 1) * ((text.length : Int) + 2)) 2 * 7)))) = true := by rw [hfull]; rfl
 refine ⟨σ8, T', F', x_func rfl (by unfold d_law_rows_right; (repeat' first | ((with_reducible show dAnd (dNot _) _ _ _ = _); refine' x_and ?_ ?_) | with_reducible refine' x_andB2 ?_ ?_ | with_reducible refine' x_tryOk ?_ | ((with_reducible show spLen _ _ = _); exact ln _) | ((with_reducible show binF .Mult _ _ _ = _); exact mulF (by tb_rel) (by tb_rel)) | with_reducible exact divF | ((with_reducible show cmpF .Eq (.loc _) _ _ = _); exact ceq) | ((with_reducible show cmpF .Eq (tL _ _ _ _ _) _ _ = _); exact hfin) | ((with_reducible show sp_cAreas _ _ = _); exact eA) | ((with_reducible show sp_law_parts _ _ = _); exact e7) | (with_reducible first | exact x_cst | exact x_nil | exact x_snil | exact x_andret | exact x_add | exact c_gt | exact c_is | refine' x_next ?_ | refine' x_seq ?_ ?_ | refine' x_assign ?_ | refine' x_ret ?_ | refine' x_bin ?_ ?_ ?_ | refine' x_cmp ?_ ?_ ?_ | refine' x_item ?_ ?_ ?_ | refine' x_list ?_ ?_ | refine' x_call ?_ ?_ | refine' x_fn ?_ ?_ | refine' x_meth ?_ ?_ ?_ ?_ | refine' x_and ?_ ?_ | refine' x_not ?_ | refine' x_cons ?_ ?_) | ((with_reducible refine' x_var ?h); case h => exact rfl) | ((with_reducible refine' if_t ?h ?_); case h => top_raise) | ((with_reducible show _ = _); with_reducible assumption) | ((with_reducible show Res.ok _ _ = _); exact rfl) | ((with_reducible show SRes.ok _ _ _ = _); exact rfl) | (exact Nat.le_of_ble_eq_true rfl))), S8, by tb_rel, hFl, hF0', k06.trans ((k7.mono (by kts_caught)).trans k8)⟩
end Mine
end
section
open PySem PySem.W PySem.Calls PyProof.Rows
namespace Mine
noncomputable def rE : List Nat := [114, 101, 115, 111, 117, 114, 99, 101, 95, 101, 114, 114, 111, 114]
noncomputable def mE : List Nat := [109, 101, 109, 111, 114, 121]
noncomputable def TE (T : List (List Nat)) : List (List Nat) := add (add T mE) rE
noncomputable def FE (T : List (List Nat)) (F : List (Int × Int)) : List (Int × Int) := add F (((ix (TE T) rE : Nat) : Int), 1)
noncomputable def fE (T : List (List Nat)) (F : List (Int × Int)) : AV := .tup [.str [115], .int ((ix (FE T F) (((ix (TE T) rE : Nat) : Int), 1) : Nat) : Int), .tup [aT ((ix (TE T) mE : Nat) : Int)]]
theorem x_isStr {d : DE} {fr : Frame} {σ σ1 : Store} {s : List Nat} (h : d fr σ = .ok (.str s) σ1) : dIsStr d fr σ = .ok (.bool true) σ1 := by unfold dIsStr; rw [h]; rfl
theorem sForL_one {chk : Store → Bool} {g : AV → Frame → Store → GRes} {body : DS} {x : AV} {fr fr' : Frame} {σ σ' : Store} {p : Frame × Store} (h1 : g x fr σ = some p) (h2 : body p.1 p.2 = .ok .next fr' σ') (h3 : chk σ' = true) : sForL chk g body [x] fr σ = .ok .next fr' σ' := by
 unfold sForL; rw [h1]; simp only [h2, h3, if_true]; rfl
theorem x_raise {d : DE} {fr : Frame} {σ σ1 : Store} {k : Nat} {fs : List (Nat × AV)} (h : d fr σ = .ok (.loc k) σ1) (h2 : σ1[k]? = some (.exc true 1 fs)) : sRaise d fr σ = .exc (.loc k) fr σ1 := by
 unfold sRaise; rw [h]; show (match σ1[k]? with | some (.exc true 1 _) => SRes.exc (.loc k) fr σ1 | _ => .stuck) = _; rw [h2]; rfl
section
variable {T : List (List Nat)} {F : List (Int × Int)} {σ : Store}
theorem formal_ok (S : Sym T F σ) (hT : T.length < 800) (hF : F.length < 800) : ∃ σ', sp_formal_of [.loc 4, .str rE, .tup [.str mE]] σ = .ok (fE T F) σ' ∧ Sym (TE T) (FE T F) σ' ∧ Keep [5, 6, 7, 8] σ σ' := by
 have k0 : Keep ([] : List Nat) σ (σ ++ [.list []]) := Keep.add
 have S0 := S.keep k0 (by kts_caught)
 obtain ⟨σ1, e1, S1, k1⟩ := atom_ok (t := mE) S0 (by tb_rel)
 have n8 : 8 < σ.length := (List.getElem?_eq_some_iff.mp S.fnums).1
 have hl := k1.at_ σ.length _ (by kts_caught) (getL_new (σ := σ) (o := .list []))
 have kl0 := kind_list (getL_new (σ := σ) (o := .list []))
 have ap := append_list (v := aT ((ix (add T mE) mE : Nat) : Int)) hl (by kts_caught)
 have k2 : Keep [σ.length] σ1 (σ1.set σ.length (.list ([] ++ [aT ((ix (add T mE) mE : Nat) : Int)]))) := Keep.set (by kts_caught)
 have S2 := S1.keep k2 (by kts_caught)
 have hl2 := get_self (o' := .list ([] ++ [aT ((ix (add T mE) mE : Nat) : Int)])) hl
 have ln := len_list hl2 (by kts_caught)
 have lT : (add T mE).length ≤ T.length + 1 := add_len
 obtain ⟨σ3, e3, S3, k3⟩ := func_ok (t := rE) (n := 1) S2 (by tb_rel) (by tb_rel)
 have hl3 := k3.at_ _ _ (by kts_caught) hl2
 have tu := tuple_ok hl3 (by kts_caught)
 have i40 := S0.inst
 have i42 := S2.inst
 have fe : fE T F = .tup [.str [115], .int ((ix (FE T F) (((ix (TE T) rE : Nat) : Int), 1) : Nat) : Int), .tup [aT ((ix (add T mE) mE : Nat) : Int)]] := by
  unfold fE TE; rw [ix_add add_mem]
 have hb : ((SQ (sExpr (dMethB .list spAppend (DV 3) (LC (dIf (bVal (dIsStr (DV 4))) (dTup (LC (DC (.str [97])) (LC (dMeth 0 sp_sy_atom (DV 0) (LC (DV 4) LN)) LN))) (DV 4)) LN))) SN) : DS) [some (.loc 4), some (.str rE), some (.tup [.str mE]), some (.loc σ.length), some (.str mE)] (σ ++ [.list []]) = .ok .next [some (.loc 4), some (.str rE), some (.tup [.str mE]), some (.loc σ.length), some (.str mE)] (σ1.set σ.length (.list ([] ++ [aT ((ix (add T mE) mE : Nat) : Int)]))) := by
  (repeat' first | with_reducible refine' x_isStr ?_ | ((with_reducible show kindF _ _ _ = _); first | exact kl0 | exact kind_list hl) | ((with_reducible show spAppend _ _ = _); exact ap) | (with_reducible first | exact x_cst | exact x_nil | exact x_snil | refine' x_next ?_ | refine' x_seq ?_ ?_ | refine' x_assign ?_ | refine' x_ret ?_ | refine' x_expr ?_ | refine' x_bval ?_ | refine' x_tup ?_ ?_ | refine' x_list ?_ ?_ | refine' x_call ?_ ?_ | refine' x_meth ?_ ?_ ?_ ?_ | refine' x_methB ?_ ?_ ?_ ?_ | refine' x_dif ?_ ?_ | refine' x_cons ?_ ?_) | ((with_reducible refine' x_var ?h); case h => exact rfl) | ((with_reducible refine' if_t ?h ?_); case h => top_raise) | ((with_reducible show _ = _); with_reducible assumption) | ((with_reducible show Res.ok _ _ = _); exact rfl) | ((with_reducible show SRes.ok _ _ _ = _); exact rfl) | (exact Nat.le_of_ble_eq_true rfl))
 have hlp : sForL (fun _ => true) (g := (gName 4)) (body := (SQ (sExpr (dMethB .list spAppend (DV 3) (LC (dIf (bVal (dIsStr (DV 4))) (dTup (LC (DC (.str [97])) (LC (dMeth 0 sp_sy_atom (DV 0) (LC (DV 4) LN)) LN))) (DV 4)) LN))) SN)) [.str mE] [some (.loc 4), some (.str rE), some (.tup [.str mE]), some (.loc σ.length), none] (σ ++ [.list []]) = .ok .next [some (.loc 4), some (.str rE), some (.tup [.str mE]), some (.loc σ.length), some (.str mE)] (σ1.set σ.length (.list ([] ++ [aT ((ix (add T mE) mE : Nat) : Int)]))) := sForL_one rfl hb rfl
 rw [fe]
 exact ⟨σ3, x_func rfl (by unfold d_formal_of; (repeat' first | with_reducible refine' x_for ?_ ?_ | ((with_reducible show sIter _ _ _ _ _ = _); exact hlp) | ((with_reducible show sp_sy_func _ _ = _); exact e3) | ((with_reducible show spTuple _ _ = _); exact tu) | ((with_reducible show (SRes.ok (Fl.ret _) _ _).andThen _ = _); exact rfl) | (with_reducible first | exact x_cst | exact x_nil | exact x_snil | refine' x_next ?_ | refine' x_seq ?_ ?_ | refine' x_assign ?_ | refine' x_ret ?_ | refine' x_expr ?_ | refine' x_bval ?_ | refine' x_tup ?_ ?_ | refine' x_list ?_ ?_ | refine' x_call ?_ ?_ | refine' x_meth ?_ ?_ ?_ ?_ | refine' x_methB ?_ ?_ ?_ ?_ | refine' x_dif ?_ ?_ | refine' x_cons ?_ ?_) | ((with_reducible refine' x_var ?h); case h => exact rfl) | ((with_reducible refine' if_t ?h ?_); case h => top_raise) | ((with_reducible show _ = _); with_reducible assumption) | ((with_reducible show Res.ok _ _ = _); exact rfl) | ((with_reducible show SRes.ok _ _ _ = _); exact rfl) | (exact Nat.le_of_ble_eq_true rfl))), S3, ((k0.mono (by kts_caught)).trans (k1.mono (by kts_caught))).new ((k2.mono (by kts_caught)).trans (k3.mono (u := [σ.length, 5, 6, 7, 8]) (by kts_caught))) (by kts_caught)⟩
end
end Mine
end
section
open PySem PySem.W PySem.Calls PyProof.Rows
namespace Mine
theorem rowsX_rule {avs as : List AV} {σ σ0 σ1 σ2 σ3 σ4 σ5 : Store} {fr0 fr1 fr2 fr7 fr9 : Frame} {j k : Nat} {fs3 fs : List (Nat × AV)} {v : AV} (hl : avs.length = 5) (h0 : d_rr0 (avs.map some ++ List.replicate 7 none) σ = .ok .next fr0 σ0) (h1 : d_rr1 fr0 σ0 = .ok .next fr1 σ1) (h2 : d_rr2 fr1 σ1 = .ok .next fr2 σ2) (h3 : fr2[5]? = some (some (.loc j))) (h4 : σ2[j]? = some (.inst 3 fs3)) (h5 : l_rr fr2 σ2 = .ok as σ3) (h6 : as.length = 6)
 (h7 : d_sub_atom_rows (as.map some ++ List.replicate 10 none) σ3 = .exc (.loc k) fr7 σ4) (h8 : σ4[k]? = some (.exc true 1 fs)) (h9 : d_hand (fr2.set 9 (some (.loc k))) (σ4.set k (.exc false 1 fs)) = .ok (.ret v) fr9 σ5) : rowsX avs σ = .ok v σ5 := by
 unfold rowsX; rw [if_pos hl]
 simp only [h0, h1, h2, x_var h3, h4, h5, h6, h7, h8, h9, toRet, if_true]
theorem x_assign2 {d : DE} {i : Nat} {fr fr1 : Frame} {σ σ1 : Store} {v : AV} (h : d fr σ = .ok v σ1) (h2 : fr.set i (some v) = fr1) : QA i d fr σ = .ok .next fr1 σ1 := by rw [← h2]; exact x_assign h
noncomputable abbrev ballA (T : List (List Nat)) (F : List (Int × Int)) : AV := .tup [.str [115], .int 16, .tup [fE T F, aT 25]]
theorem excM {σ : Store} {b : AV} : sp_cPrologError [b] σ = .ok (.loc σ.length) (σ ++ [.exc true 1 [(4, b)]]) := rfl
theorem resource_ok {T : List (List Nat)} {F : List (Int × Int)} {σ : Store} (S : Sym T F σ) (hT : T.length < 800) (hF : F.length < 800) : ∃ σ', sp_resource_error [.loc 4, .str mE] σ = .ok (.loc σ'.length) (σ' ++ [AO.exc true 1 [(4, ballA T F)]]) ∧ Sym (TE T) (FE T F) σ' ∧ Keep [5, 6, 7, 8] σ σ' := by
 obtain ⟨σ', e, S', k⟩ := formal_ok S hT hF
 have e2 : sp_system_error [fE T F] σ' = .ok (.loc σ'.length) (σ' ++ [AO.exc true 1 [(4, ballA T F)]]) := x_func rfl (by unfold d_system_error; (repeat' first | ((with_reducible show sp_cPrologError _ _ = _); exact excM) | (with_reducible first | exact x_cst | exact x_nil | exact x_andret | refine' x_seq ?_ ?_ | refine' x_ret ?_ | refine' x_tup ?_ ?_ | refine' x_fn ?_ ?_ | refine' x_cons ?_ ?_) | ((with_reducible refine' x_var ?h); case h => exact rfl) | ((with_reducible show _ = _); with_reducible assumption) | ((with_reducible show Res.ok _ _ = _); exact rfl) | ((with_reducible show SRes.ok _ _ _ = _); exact rfl) | (exact Nat.le_of_ble_eq_true rfl)))
 exact ⟨σ', x_func rfl (by unfold d_resource_error; (repeat' first | ((with_reducible show sp_formal_of _ _ = _); exact e) | (with_reducible first | exact x_cst | exact x_nil | exact x_andret | refine' x_seq ?_ ?_ | refine' x_ret ?_ | refine' x_tup ?_ ?_ | refine' x_fn ?_ ?_ | refine' x_cons ?_ ?_) | ((with_reducible refine' x_var ?h); case h => exact rfl) | ((with_reducible show _ = _); with_reducible assumption) | ((with_reducible show Res.ok _ _ = _); exact rfl) | ((with_reducible show SRes.ok _ _ _ = _); exact rfl) | (exact Nat.le_of_ble_eq_true rfl))), S', k⟩
theorem kq_fE {T : List (List Nat)} {F : List (Int × Int)} : plain (fE T F) = true := by
 unfold plain
 show ([Dat.str ⟨[115].toArray⟩, .int _, .tuple [(aT ((ix (TE T) mE : Nat) : Int)).dat]].all (kqdOk 119)) = true
 have h : kqdOk 119 (.tuple [(aT ((ix (TE T) mE : Nat) : Int)).dat]) = true := by
  show ([(aT ((ix (TE T) mE : Nat) : Int)).dat].all (kqdOk 118)) = true
  rw [List.all_cons, kq_pair kq_a]; rfl
 rw [List.all_cons, List.all_cons, List.all_cons, h]; exact Bool.and_eq_true_iff.mpr ⟨kq_s, rfl⟩
theorem TE_mem {T : List (List Nat)} : mE ∈ TE T ∧ rE ∈ TE T := ⟨mem_add add_mem, add_mem⟩
theorem rowsX_ok {room : Int} {W : Nat} {T : List (List Nat)} {F : List (Int × Int)} {σ : Store} {text : List Nat} (sym : Sym T F σ) (hW : σ[W]? = some (.list ([-1, -1, -1].map .int))) (hW9 : 9 ≤ W)
 (hT : T.length < 500) (hF : F.length < 700) (hl : text.length ≤ 6)
 (hroom : room < Int.fdiv (((text.length : Int) + 1) * ((text.length : Int) + 2)) 2 * 7) : ∃ σ', rowsX [.loc 4, .str text, .loc W, .none, .int room] σ = .ok (.bool true) σ' ∧ Sym (TE T) (FE T F) σ' ∧ Keep [5, 6, 7, 8] σ σ' := by
 obtain ⟨fs, σB, eA, kA, kB, SB, hA, arB, mB⟩ := areas_ok (room := room) sym
 have n8 : 8 < σ.length := (List.getElem?_eq_some_iff.mp sym.fnums).1
 have hWl : W < σ.length := (List.getElem?_eq_some_iff.mp hW).1
 have cnt := cnt_is hl
 have ctr := tri_is hl
 have hWB := kB.at_ W _ (by kts_caught) hW
 have ceq := cmp_lists hWB (getL_new (σ := σB) (o := .list ([-1, -1, -1].map .int))) plain_ints plain_ints
 rw [eqAs_self] at ceq
 have w0 : itemF (.loc W) (.int 0) (σB ++ [.list ([-1, -1, -1].map .int)]) = .ok (.int (-1)) (σB ++ [.list ([-1, -1, -1].map .int)]) := itemF_list hWB (by decide) rfl (by kts_caught)
 have w1 : itemF (.loc W) (.int 1) (σB ++ [.list ([-1, -1, -1].map .int)]) = .ok (.int (-1)) (σB ++ [.list ([-1, -1, -1].map .int)]) := itemF_list hWB (by decide) rfl (by kts_caught)
 have w2 : itemF (.loc W) (.int 2) (σB ++ [.list ([-1, -1, -1].map .int)]) = .ok (.int (-1)) (σB ++ [.list ([-1, -1, -1].map .int)]) := itemF_list hWB (by decide) rfl (by kts_caught)
 have ln := fun σ => len_str (σ := σ) (xs := text) (by tb_rel)
 obtain ⟨i5, i15, i6⟩ := attr_facts arB mB
 obtain ⟨σ1, e1, S1, k1⟩ := resource_ok SB (by tb_rel) (by tb_rel)
 have hsub : ∃ fr7, d_sub_atom_rows ([AV.loc (σ.length + 1), .str text, .int (-1), .int (-1), .int (-1), .none].map some ++ List.replicate 10 none) (σB ++ [.list ([-1, -1, -1].map .int)]) = .exc (.loc σ1.length) fr7 (σ1 ++ [AO.exc true 1 [(4, ballA T F)]]) :=
  ⟨_, by unfold d_sub_atom_rows; (repeat' first | with_reducible refine' x_bandB ?_ ?_ | ((with_reducible show spLen _ _ = _); exact ln _) | ((with_reducible show binF .Mult _ _ _ = _); exact mulF (by tb_rel) (by tb_rel)) | with_reducible exact divF | ((with_reducible refine' x_raise ?_ ?_)) | ((with_reducible show (_ : Store)[_]? = _); exact getL_new) | ((with_reducible show sp_resource_error _ _ = _); exact e1) | (with_reducible first | exact x_cst | exact x_nil | exact x_snil | exact x_andret | exact x_andexc | exact x_add | exact c_eq | exact c_gt | exact c_is | exact c_isnot | refine' x_next ?_ | refine' x_seq ?_ ?_ | refine' x_assign ?_ | refine' x_ret ?_ | refine' x_sif ?_ ?_ | refine' x_bval ?_ | refine' x_bin ?_ ?_ ?_ | refine' x_cmp ?_ ?_ ?_ | refine' x_attr ?_ ?_ | refine' x_item ?_ ?_ ?_ | refine' x_tup ?_ ?_ | refine' x_list ?_ ?_ | refine' x_call ?_ ?_ | refine' x_fn ?_ ?_ | refine' x_meth ?_ ?_ ?_ ?_ | refine' x_and ?_ ?_ | refine' x_cons ?_ ?_) | ((with_reducible refine' x_var ?h); case h => exact rfl) | ((with_reducible refine' if_t ?h ?_); case h => top_raise) | ((with_reducible refine' if_f ?h ?_); case h => top_raise) | ((with_reducible show _ = _); with_reducible assumption) | ((with_reducible show Res.ok _ _ = _); exact rfl) | ((with_reducible show SRes.ok _ _ _ = _); exact rfl) | (exact Nat.le_of_ble_eq_true rfl))⟩
 obtain ⟨fr7, hsub⟩ := hsub
 have k2 : Keep [σ1.length] σ1 ((σ1 ++ [AO.exc true 1 [(4, ballA T F)]]).set σ1.length (AO.exc false 1 [(4, ballA T F)])) := (Keep.add (t := [σ1.length])).trans (Keep.set (by kts_caught))
 have kBl := kB.len
 have k1l := k1.len
 have S2 := S1.keep k2 (by kts_caught)
 have hx : ((σ1 ++ [AO.exc true 1 [(4, ballA T F)]]).set σ1.length (AO.exc false 1 [(4, ballA T F)]))[σ1.length]? = some (.exc false 1 [(4, ballA T F)]) := get_self getL_new
 have lT : (TE T).length ≤ T.length + 2 := Nat.le_trans add_len (by have := add_len (T := T) (t := mE); tb_rel)
 have lF : (FE T F).length ≤ F.length + 1 := add_len
 obtain ⟨σ3, e3, S3, k3⟩ := func_ok (t := rE) (n := 1) S2 (by tb_rel) (by tb_rel)
 rw [add_id TE_mem.2] at e3 S3
 rw [add_id (show (((ix (TE T) rE : Nat) : Int), (1 : Int)) ∈ FE T F from add_mem)] at e3 S3
 obtain ⟨σ4, e4, S4, k4⟩ := atom_ok (t := mE) S3 (by tb_rel)
 rw [add_id TE_mem.1] at e4 S4
 have i42 := S2.inst
 have i43 := S3.inst
 have cf : ∀ σ, cmpF .Eq (fE T F) (fE T F) σ = .ok (.bool true) σ := fun σ => cmp_self kq_fE
 have hball : ∀ {fr : Frame} {τ : Store} (h : fr[9]? = some (some (.loc σ1.length))) (h2 : τ[σ1.length]? = some (.exc false 1 [(4, ballA T F)])), dBall (DV 9) fr τ = .ok (ballA T F) τ := fun h h2 => by
  unfold dBall; rw [x_var h]; simp only [Res.bind_ok, h2]; rfl
 have hfull : (true && (true && decide (room < Int.fdiv (((text.length : Int) + 1) * ((text.length : Int) + 2)) 2 * 7))) = true := by rw [decide_eq_true hroom]; rfl
 have k12 := k1.new k2 (fun j hj => by rw [List.mem_singleton.mp hj]; exact .inr k1.len)
 have k06 : Keep [5, 6, 7, 8] σ σ4 := (kB.mono (by kts_caught)).trans (k12.trans (k3.trans (k4.mono (by kts_caught))))
 refine ⟨σ4, rowsX_rule (j := σ.length + 1) (fr0 := [some (.loc 4), some (.str text), some (.loc W), some .none, some (.int room), some (.loc (σ.length + 1)), none, none, none, none, none, none]) (fr1 := [some (.loc 4), some (.str text), some (.loc W), some .none, some (.int room), some (.loc (σ.length + 1)), some (.int (Int.fdiv (((text.length : Int) + 1) * ((text.length : Int) + 2)) 2)), none, none, none, none, none])
  (fr2 := [some (.loc 4), some (.str text), some (.loc W), some .none, some (.int room), some (.loc (σ.length + 1)), some (.int (Int.fdiv (((text.length : Int) + 1) * ((text.length : Int) + 2)) 2)), some (.bool (true && (true && decide (room < Int.fdiv (((text.length : Int) + 1) * ((text.length : Int) + 2)) 2 * 7)))), none, none, none, none]) rfl
  (by unfold d_rr0; (repeat' first | ((with_reducible refine' x_assign2 ?_ ?_)) | ((with_reducible show List.set _ _ _ = _); exact rfl) | ((with_reducible show sp_cAreas _ _ = _); exact eA) | (with_reducible first | exact x_cst | exact x_nil | exact x_snil | exact x_andret | exact x_andexc | exact x_add | exact c_eq | exact c_gt | exact c_is | exact c_isnot | refine' x_next ?_ | refine' x_seq ?_ ?_ | refine' x_assign ?_ | refine' x_ret ?_ | refine' x_sif ?_ ?_ | refine' x_bval ?_ | refine' x_bin ?_ ?_ ?_ | refine' x_cmp ?_ ?_ ?_ | refine' x_attr ?_ ?_ | refine' x_item ?_ ?_ ?_ | refine' x_tup ?_ ?_ | refine' x_list ?_ ?_ | refine' x_call ?_ ?_ | refine' x_fn ?_ ?_ | refine' x_meth ?_ ?_ ?_ ?_ | refine' x_and ?_ ?_ | refine' x_cons ?_ ?_) | ((with_reducible refine' x_var ?h); case h => exact rfl) | ((with_reducible refine' if_t ?h ?_); case h => top_raise) | ((with_reducible refine' if_f ?h ?_); case h => top_raise) | ((with_reducible show _ = _); with_reducible assumption) | ((with_reducible show Res.ok _ _ = _); exact rfl) | ((with_reducible show SRes.ok _ _ _ = _); exact rfl) | (exact Nat.le_of_ble_eq_true rfl)))
  (by unfold d_rr1; (repeat' first | ((with_reducible refine' x_assign2 ?_ ?_)) | ((with_reducible show List.set _ _ _ = _); exact rfl) | ((with_reducible show spLen _ _ = _); exact ln _) | ((with_reducible show binF .Mult _ _ _ = _); exact mulF (by tb_rel) (by tb_rel)) | with_reducible exact divF | (with_reducible first | exact x_cst | exact x_nil | exact x_snil | exact x_andret | exact x_andexc | exact x_add | exact c_eq | exact c_gt | exact c_is | exact c_isnot | refine' x_next ?_ | refine' x_seq ?_ ?_ | refine' x_assign ?_ | refine' x_ret ?_ | refine' x_sif ?_ ?_ | refine' x_bval ?_ | refine' x_bin ?_ ?_ ?_ | refine' x_cmp ?_ ?_ ?_ | refine' x_attr ?_ ?_ | refine' x_item ?_ ?_ ?_ | refine' x_tup ?_ ?_ | refine' x_list ?_ ?_ | refine' x_call ?_ ?_ | refine' x_fn ?_ ?_ | refine' x_meth ?_ ?_ ?_ ?_ | refine' x_and ?_ ?_ | refine' x_cons ?_ ?_) | ((with_reducible refine' x_var ?h); case h => exact rfl) | ((with_reducible refine' if_t ?h ?_); case h => top_raise) | ((with_reducible refine' if_f ?h ?_); case h => top_raise) | ((with_reducible show _ = _); with_reducible assumption) | ((with_reducible show Res.ok _ _ = _); exact rfl) | ((with_reducible show SRes.ok _ _ _ = _); exact rfl) | (exact Nat.le_of_ble_eq_true rfl)))
  (by unfold d_rr2; (repeat' first | ((with_reducible refine' x_assign2 ?_ ?_)) | ((with_reducible show List.set _ _ _ = _); exact rfl) | with_reducible refine' x_andB2 ?_ ?_ | ((with_reducible show binF .Mult _ _ _ = _); exact mulF (by tb_rel) (by tb_rel)) | ((with_reducible show cmpF .Eq (.loc _) _ _ = _); exact ceq) | (with_reducible first | exact x_cst | exact x_nil | exact x_snil | exact x_andret | exact x_andexc | exact x_add | exact c_eq | exact c_gt | exact c_is | exact c_isnot | refine' x_next ?_ | refine' x_seq ?_ ?_ | refine' x_assign ?_ | refine' x_ret ?_ | refine' x_sif ?_ ?_ | refine' x_bval ?_ | refine' x_bin ?_ ?_ ?_ | refine' x_cmp ?_ ?_ ?_ | refine' x_attr ?_ ?_ | refine' x_item ?_ ?_ ?_ | refine' x_tup ?_ ?_ | refine' x_list ?_ ?_ | refine' x_call ?_ ?_ | refine' x_fn ?_ ?_ | refine' x_meth ?_ ?_ ?_ ?_ | refine' x_and ?_ ?_ | refine' x_cons ?_ ?_) | ((with_reducible refine' x_var ?h); case h => exact rfl) | ((with_reducible refine' if_t ?h ?_); case h => top_raise) | ((with_reducible refine' if_f ?h ?_); case h => top_raise) | ((with_reducible show _ = _); with_reducible assumption) | ((with_reducible show Res.ok _ _ = _); exact rfl) | ((with_reducible show SRes.ok _ _ _ = _); exact rfl) | (exact Nat.le_of_ble_eq_true rfl)))
  rfl hA (by unfold l_rr; (repeat' first | (with_reducible first | exact x_cst | exact x_nil | exact x_snil | exact x_andret | exact x_andexc | exact x_add | exact c_eq | exact c_gt | exact c_is | exact c_isnot | refine' x_next ?_ | refine' x_seq ?_ ?_ | refine' x_assign ?_ | refine' x_ret ?_ | refine' x_sif ?_ ?_ | refine' x_bval ?_ | refine' x_bin ?_ ?_ ?_ | refine' x_cmp ?_ ?_ ?_ | refine' x_attr ?_ ?_ | refine' x_item ?_ ?_ ?_ | refine' x_tup ?_ ?_ | refine' x_list ?_ ?_ | refine' x_call ?_ ?_ | refine' x_fn ?_ ?_ | refine' x_meth ?_ ?_ ?_ ?_ | refine' x_and ?_ ?_ | refine' x_cons ?_ ?_) | ((with_reducible refine' x_var ?h); case h => exact rfl) | ((with_reducible refine' if_t ?h ?_); case h => top_raise) | ((with_reducible refine' if_f ?h ?_); case h => top_raise) | ((with_reducible show _ = _); with_reducible assumption) | ((with_reducible show Res.ok _ _ = _); exact rfl) | ((with_reducible show SRes.ok _ _ _ = _); exact rfl) | (exact Nat.le_of_ble_eq_true rfl))) rfl hsub getL_new (by unfold d_hand; (repeat' first | ((with_reducible show dBall _ _ _ = _); exact hball rfl hx) | ((with_reducible show itemF (.tup _) _ _ = _); exact rfl) | ((with_reducible show itemF (ballA _ _) _ _ = _); exact rfl) | ((with_reducible show sp_sy_func _ _ = _); exact e3) | ((with_reducible show sp_sy_atom _ _ = _); exact e4) | ((with_reducible show cmpF .Eq _ _ _ = _); exact cf _) | (with_reducible first | exact x_cst | exact x_nil | exact x_snil | exact x_andret | exact x_andexc | exact x_add | exact c_eq | exact c_gt | exact c_is | exact c_isnot | refine' x_next ?_ | refine' x_seq ?_ ?_ | refine' x_assign ?_ | refine' x_ret ?_ | refine' x_sif ?_ ?_ | refine' x_bval ?_ | refine' x_bin ?_ ?_ ?_ | refine' x_cmp ?_ ?_ ?_ | refine' x_attr ?_ ?_ | refine' x_item ?_ ?_ ?_ | refine' x_tup ?_ ?_ | refine' x_list ?_ ?_ | refine' x_call ?_ ?_ | refine' x_fn ?_ ?_ | refine' x_meth ?_ ?_ ?_ ?_ | refine' x_and ?_ ?_ | refine' x_cons ?_ ?_) | ((with_reducible refine' x_var ?h); case h => exact rfl) | ((with_reducible refine' if_t ?h ?_); case h => top_raise) | ((with_reducible refine' if_f ?h ?_); case h => top_raise) | ((with_reducible show _ = _); with_reducible assumption) | ((with_reducible show Res.ok _ _ = _); exact rfl) | ((with_reducible show SRes.ok _ _ _ = _); exact rfl) | (exact Nat.le_of_ble_eq_true rfl))), S4, k06⟩
end Mine
end
section
open PySem PySem.W PySem.Calls PyProof.Rows
namespace Mine
noncomputable def upC (c : Nat) : Nat := if 97 ≤ (c : Int) ∧ (c : Int) ≤ 122 then c - 32 else c
noncomputable def loC (c : Nat) : Nat := if 65 ≤ (c : Int) ∧ (c : Int) ≤ 90 then c + 32 else c
theorem lo_up (c : Nat) : loC (upC c) = loC c := by unfold loC upC; (repeat' split) <;> tb_rel
theorem up_lo (c : Nat) : upC (loC c) = upC c := by unfold loC upC; (repeat' split) <;> tb_rel
noncomputable abbrev chs (t : List Nat) : List AV := t.map fun c => .str [c]
theorem strsOf_chs : ∀ t : List Nat, strsOf (chs t) = some (t.map fun c => [c])
 | [] => rfl
 | c :: t => by show strsOf (.str [c] :: chs t) = _; simp only [strsOf, strsOf_chs t]; rfl
theorem flat_chs : ∀ t : List Nat, (t.map fun c => [c]).flatten = t
 | [] => rfl
 | c :: t => by rw [List.map_cons, List.flatten_cons, flat_chs t]; rfl
theorem join_ok {σ : Store} {n : Nat} {t : List Nat} (h : σ[n]? = some (.list (chs t))) (hl : t.length ≤ 1000) : spJoin [.str [], .loc n] σ = .ok (.str t) σ := by
 simp only [spJoin, h, strsOf_chs, flat_chs]; exact if_pos hl
theorem small_ok {c : Nat} {σ : Store} : sp_is_small [.int c] σ = .ok (.bool (decide (97 ≤ (c : Int)) && decide ((c : Int) ≤ 122))) σ := x_func rfl (by unfold d_is_small; (repeat' first | with_reducible refine' x_andB ?_ ?_ | (with_reducible first | exact x_cst | exact x_andret | exact c_le | refine' x_seq ?_ ?_ | refine' x_ret ?_ | refine' x_cmp ?_ ?_ ?_) | ((with_reducible refine' x_var ?h); case h => exact rfl) | ((with_reducible show _ = _); with_reducible assumption) | ((with_reducible show Res.ok _ _ = _); exact rfl) | ((with_reducible show SRes.ok _ _ _ = _); exact rfl)))
theorem capital_ok {c : Nat} {σ : Store} : sp_is_capital [.int c] σ = .ok (.bool (decide (65 ≤ (c : Int)) && decide ((c : Int) ≤ 90))) σ := x_func rfl (by unfold d_is_capital; (repeat' first | with_reducible refine' x_andB ?_ ?_ | (with_reducible first | exact x_cst | exact x_andret | exact c_le | refine' x_seq ?_ ?_ | refine' x_ret ?_ | refine' x_cmp ?_ ?_ ?_) | ((with_reducible refine' x_var ?h); case h => exact rfl) | ((with_reducible show _ = _); with_reducible assumption) | ((with_reducible show Res.ok _ _ = _); exact rfl) | ((with_reducible show SRes.ok _ _ _ = _); exact rfl)))
theorem chr_ok {i : Int} {c : Nat} {σ : Store} (h : i = c) (h2 : c ≤ 1114111) : spChr [.int i] σ = .ok (.str [c]) σ := by
 subst h; show (if 0 ≤ (c : Int) ∧ (c : Int) ≤ 1114111 then Res.ok (AV.str [(c : Int).toNat]) σ else .stuck) = _; rw [if_pos ⟨by tb_rel, by tb_rel⟩]; rfl
theorem ord_ok {c : Nat} {σ : Store} : spOrd [.str [c]] σ = .ok (.int c) σ := rfl
theorem iter_str {cs : List Nat} {g : AV → Frame → Store → GRes} {b : DS} {fr : Frame} {σ : Store} {R : SRes} (k : sForL (fun _ => true) g b (chs cs) fr σ = R) : sIter g b (.str cs) fr σ = R := k
theorem chs_get {t : List Nat} {j : Nat} {x : AV} (h : (chs t)[j]? = some x) : ∃ c, t[j]? = some c ∧ x = .str [c] := by
 rw [List.getElem?_map] at h
 obtain ⟨p, h1, h2⟩ := Option.map_eq_some_iff.mp h
 exact ⟨p, h1, h2.symm⟩
theorem upper_ok {t : List Nat} {σ : Store} (hl : t.length ≤ 100) : sp_upper_text [.str t] σ = .ok (.str (t.map upC)) (σ ++ [.list (chs (t.map upC))]) := by
 obtain ⟨fr', σ', hf, y2, y3, hfr, hσ⟩ := forL_rule (chk := fun _ => true) (g := (gName 2)) (body := (SQ (QA 3 (dCall spOrd (LC (DV 2) LN))) (SQ (sIf (bVal (dFn sp_is_small (LC (DV 3) LN))) (SQ (sExpr (dMethB .list spAppend (DV 1) (LC (dCall spChr (LC (dBin .Sub (DV 3) (DC (.int 32))) LN)) LN))) SN) (SQ (sExpr (dMethB .list spAppend (DV 1) (LC (DV 2) LN))) SN)) SN)))
  (fun j fr σ' => ∃ y2 y3, fr = [some (.str t), some (.loc σ.length), y2, y3] ∧ σ' = σ ++ [.list (chs ((t.take j).map upC))])
  (chs t) 0 (fr := [some (.str t), some (.loc σ.length), none, none]) (σ := σ ++ [.list []]) ⟨_, _, rfl, rfl⟩ (by
   rintro j y fr σ2 hj ⟨y2, y3, rfl, rfl⟩
   obtain ⟨c, hc, rfl⟩ := chs_get hj
   rw [Nat.zero_add] at *
   have hg := getL_new (σ := σ) (o := .list (chs ((t.take j).map upC)))
   have kl := kind_list hg
   have ap := append_list (v := .str [upC c]) hg (by kts_caught)
   rw [setL_new] at ap
   rw [take_next hc, List.map_append, show chs ((t.take j).map upC ++ [c].map upC) = chs ((t.take j).map upC) ++ [.str [upC c]] by simp]
   by_cases q : 97 ≤ (c : Int) ∧ (c : Int) ≤ 122
   · have hs : (decide (97 ≤ (c : Int)) && decide ((c : Int) ≤ 122)) = true := by rw [decide_eq_true q.1, decide_eq_true q.2]; rfl
     have e : upC c = c - 32 := if_pos q
     have ch := fun σ => chr_ok (σ := σ) (i := (c : Int) - 32) (c := upC c) (by rw [e]; tb_rel) (by rw [e]; tb_rel)
     exact ⟨_, rfl, [some (.str t), some (.loc σ.length), some (.str [c]), some (.int c)], _, .inl (by (repeat' first | ((with_reducible show spOrd _ _ = _); exact ord_ok) | ((with_reducible show sp_is_small _ _ = _); exact small_ok) | ((with_reducible show spChr _ _ = _); exact ch _) | ((with_reducible show spAppend _ _ = _); exact ap) | (with_reducible first | exact x_cst | exact x_nil | exact x_snil | exact x_andret | exact x_sub | refine' x_next ?_ | refine' x_seq ?_ ?_ | refine' x_assign ?_ | refine' x_ret ?_ | refine' x_expr ?_ | refine' x_sif ?_ ?_ | refine' x_bval ?_ | refine' x_bin ?_ ?_ ?_ | refine' x_list ?_ ?_ | refine' x_call ?_ ?_ | refine' x_fn ?_ ?_ | refine' x_methB ?_ ?_ ?_ ?_ | refine' x_cons ?_ ?_) | ((with_reducible refine' x_var ?h); case h => exact rfl) | ((with_reducible refine' x_snil' ?h); case h => exact rfl) | ((with_reducible refine' if_t ?h ?_); case h => top_raise) | ((with_reducible refine' if_f ?h ?_); case h => top_raise) | ((with_reducible show _ = _); with_reducible assumption) | ((with_reducible show Res.ok _ _ = _); exact rfl) | ((with_reducible show SRes.ok _ _ _ = _); exact rfl) | (exact Nat.le_of_ble_eq_true rfl))), rfl, _, _, rfl, rfl⟩
   · have hs : (decide (97 ≤ (c : Int)) && decide ((c : Int) ≤ 122)) = false := by rw [← Bool.decide_and]; exact decide_eq_false q
     have e : upC c = c := if_neg q
     rw [e] at ap ⊢
     exact ⟨_, rfl, [some (.str t), some (.loc σ.length), some (.str [c]), some (.int c)], _, .inl (by (repeat' first | ((with_reducible show spOrd _ _ = _); exact ord_ok) | ((with_reducible show sp_is_small _ _ = _); exact small_ok) | ((with_reducible show spAppend _ _ = _); exact ap) | (with_reducible first | exact x_cst | exact x_nil | exact x_snil | exact x_andret | exact x_sub | refine' x_next ?_ | refine' x_seq ?_ ?_ | refine' x_assign ?_ | refine' x_ret ?_ | refine' x_expr ?_ | refine' x_sif ?_ ?_ | refine' x_bval ?_ | refine' x_bin ?_ ?_ ?_ | refine' x_list ?_ ?_ | refine' x_call ?_ ?_ | refine' x_fn ?_ ?_ | refine' x_methB ?_ ?_ ?_ ?_ | refine' x_cons ?_ ?_) | ((with_reducible refine' x_var ?h); case h => exact rfl) | ((with_reducible refine' x_snil' ?h); case h => exact rfl) | ((with_reducible refine' if_t ?h ?_); case h => top_raise) | ((with_reducible refine' if_f ?h ?_); case h => top_raise) | ((with_reducible show _ = _); with_reducible assumption) | ((with_reducible show Res.ok _ _ = _); exact rfl) | ((with_reducible show SRes.ok _ _ _ = _); exact rfl) | (exact Nat.le_of_ble_eq_true rfl))), rfl, _, _, rfl, rfl⟩)
 rw [List.length_map, Nat.zero_add, List.take_length] at hσ
 subst hfr hσ
 have jn := join_ok (getL_new (σ := σ) (o := .list (chs (t.map upC)))) (by kts_caught)
 exact x_func rfl (by unfold d_upper_text; (repeat' first | with_reducible refine' x_for ?_ ?_ | ((with_reducible show sIter _ _ _ _ _ = _); exact iter_str hf) | ((with_reducible show spJoin _ _ = _); exact jn) | ((with_reducible show kindF _ _ _ = _); exact rfl) | (with_reducible first | exact x_cst | exact x_nil | exact x_snil | exact x_andret | exact x_sub | refine' x_next ?_ | refine' x_seq ?_ ?_ | refine' x_assign ?_ | refine' x_ret ?_ | refine' x_expr ?_ | refine' x_sif ?_ ?_ | refine' x_bval ?_ | refine' x_bin ?_ ?_ ?_ | refine' x_list ?_ ?_ | refine' x_call ?_ ?_ | refine' x_fn ?_ ?_ | refine' x_methB ?_ ?_ ?_ ?_ | refine' x_cons ?_ ?_) | ((with_reducible refine' x_var ?h); case h => exact rfl) | ((with_reducible refine' x_snil' ?h); case h => exact rfl) | ((with_reducible refine' if_t ?h ?_); case h => top_raise) | ((with_reducible refine' if_f ?h ?_); case h => top_raise) | ((with_reducible show _ = _); with_reducible assumption) | ((with_reducible show Res.ok _ _ = _); exact rfl) | ((with_reducible show SRes.ok _ _ _ = _); exact rfl) | (exact Nat.le_of_ble_eq_true rfl)))
theorem lower_ok {t : List Nat} {σ : Store} (hl : t.length ≤ 100) : sp_lower_text [.str t] σ = .ok (.str (t.map loC)) (σ ++ [.list (chs (t.map loC))]) := by
 obtain ⟨fr', σ', hf, y2, y3, hfr, hσ⟩ := forL_rule (chk := fun _ => true) (g := (gName 2)) (body := (SQ (QA 3 (dCall spOrd (LC (DV 2) LN))) (SQ (sIf (bVal (dFn sp_is_capital (LC (DV 3) LN))) (SQ (sExpr (dMethB .list spAppend (DV 1) (LC (dCall spChr (LC (dBin .Add (DV 3) (DC (.int 32))) LN)) LN))) SN) (SQ (sExpr (dMethB .list spAppend (DV 1) (LC (DV 2) LN))) SN)) SN)))
  (fun j fr σ' => ∃ y2 y3, fr = [some (.str t), some (.loc σ.length), y2, y3] ∧ σ' = σ ++ [.list (chs ((t.take j).map loC))])
  (chs t) 0 (fr := [some (.str t), some (.loc σ.length), none, none]) (σ := σ ++ [.list []]) ⟨_, _, rfl, rfl⟩ (by
   rintro j y fr σ2 hj ⟨y2, y3, rfl, rfl⟩
   obtain ⟨c, hc, rfl⟩ := chs_get hj
   rw [Nat.zero_add] at *
   have hg := getL_new (σ := σ) (o := .list (chs ((t.take j).map loC)))
   have kl := kind_list hg
   have ap := append_list (v := .str [loC c]) hg (by kts_caught)
   rw [setL_new] at ap
   rw [take_next hc, List.map_append, show chs ((t.take j).map loC ++ [c].map loC) = chs ((t.take j).map loC) ++ [.str [loC c]] by simp]
   by_cases q : 65 ≤ (c : Int) ∧ (c : Int) ≤ 90
   · have hs : (decide (65 ≤ (c : Int)) && decide ((c : Int) ≤ 90)) = true := by rw [decide_eq_true q.1, decide_eq_true q.2]; rfl
     have e : loC c = c + 32 := if_pos q
     have ch := fun σ => chr_ok (σ := σ) (i := (c : Int) + 32) (c := loC c) (by rw [e]; tb_rel) (by rw [e]; tb_rel)
     exact ⟨_, rfl, [some (.str t), some (.loc σ.length), some (.str [c]), some (.int c)], _, .inl (by (repeat' first | ((with_reducible show spOrd _ _ = _); exact ord_ok) | ((with_reducible show sp_is_capital _ _ = _); exact capital_ok) | ((with_reducible show spChr _ _ = _); exact ch _) | ((with_reducible show spAppend _ _ = _); exact ap) | (with_reducible first | exact x_cst | exact x_nil | exact x_snil | exact x_andret | exact x_add | refine' x_next ?_ | refine' x_seq ?_ ?_ | refine' x_assign ?_ | refine' x_ret ?_ | refine' x_expr ?_ | refine' x_sif ?_ ?_ | refine' x_bval ?_ | refine' x_bin ?_ ?_ ?_ | refine' x_list ?_ ?_ | refine' x_call ?_ ?_ | refine' x_fn ?_ ?_ | refine' x_methB ?_ ?_ ?_ ?_ | refine' x_cons ?_ ?_) | ((with_reducible refine' x_var ?h); case h => exact rfl) | ((with_reducible refine' x_snil' ?h); case h => exact rfl) | ((with_reducible refine' if_t ?h ?_); case h => top_raise) | ((with_reducible refine' if_f ?h ?_); case h => top_raise) | ((with_reducible show _ = _); with_reducible assumption) | ((with_reducible show Res.ok _ _ = _); exact rfl) | ((with_reducible show SRes.ok _ _ _ = _); exact rfl) | (exact Nat.le_of_ble_eq_true rfl))), rfl, _, _, rfl, rfl⟩
   · have hs : (decide (65 ≤ (c : Int)) && decide ((c : Int) ≤ 90)) = false := by rw [← Bool.decide_and]; exact decide_eq_false q
     have e : loC c = c := if_neg q
     rw [e] at ap ⊢
     exact ⟨_, rfl, [some (.str t), some (.loc σ.length), some (.str [c]), some (.int c)], _, .inl (by (repeat' first | ((with_reducible show spOrd _ _ = _); exact ord_ok) | ((with_reducible show sp_is_capital _ _ = _); exact capital_ok) | ((with_reducible show spAppend _ _ = _); exact ap) | (with_reducible first | exact x_cst | exact x_nil | exact x_snil | exact x_andret | exact x_add | refine' x_next ?_ | refine' x_seq ?_ ?_ | refine' x_assign ?_ | refine' x_ret ?_ | refine' x_expr ?_ | refine' x_sif ?_ ?_ | refine' x_bval ?_ | refine' x_bin ?_ ?_ ?_ | refine' x_list ?_ ?_ | refine' x_call ?_ ?_ | refine' x_fn ?_ ?_ | refine' x_methB ?_ ?_ ?_ ?_ | refine' x_cons ?_ ?_) | ((with_reducible refine' x_var ?h); case h => exact rfl) | ((with_reducible refine' x_snil' ?h); case h => exact rfl) | ((with_reducible refine' if_t ?h ?_); case h => top_raise) | ((with_reducible refine' if_f ?h ?_); case h => top_raise) | ((with_reducible show _ = _); with_reducible assumption) | ((with_reducible show Res.ok _ _ = _); exact rfl) | ((with_reducible show SRes.ok _ _ _ = _); exact rfl) | (exact Nat.le_of_ble_eq_true rfl))), rfl, _, _, rfl, rfl⟩)
 rw [List.length_map, Nat.zero_add, List.take_length] at hσ
 subst hfr hσ
 have jn := join_ok (getL_new (σ := σ) (o := .list (chs (t.map loC)))) (by kts_caught)
 exact x_func rfl (by unfold d_lower_text; (repeat' first | with_reducible refine' x_for ?_ ?_ | ((with_reducible show sIter _ _ _ _ _ = _); exact iter_str hf) | ((with_reducible show spJoin _ _ = _); exact jn) | ((with_reducible show kindF _ _ _ = _); exact rfl) | (with_reducible first | exact x_cst | exact x_nil | exact x_snil | exact x_andret | exact x_add | refine' x_next ?_ | refine' x_seq ?_ ?_ | refine' x_assign ?_ | refine' x_ret ?_ | refine' x_expr ?_ | refine' x_sif ?_ ?_ | refine' x_bval ?_ | refine' x_bin ?_ ?_ ?_ | refine' x_list ?_ ?_ | refine' x_call ?_ ?_ | refine' x_fn ?_ ?_ | refine' x_methB ?_ ?_ ?_ ?_ | refine' x_cons ?_ ?_) | ((with_reducible refine' x_var ?h); case h => exact rfl) | ((with_reducible refine' x_snil' ?h); case h => exact rfl) | ((with_reducible refine' if_t ?h ?_); case h => top_raise) | ((with_reducible refine' if_f ?h ?_); case h => top_raise) | ((with_reducible show _ = _); with_reducible assumption) | ((with_reducible show Res.ok _ _ = _); exact rfl) | ((with_reducible show SRes.ok _ _ _ = _); exact rfl) | (exact Nat.le_of_ble_eq_true rfl)))
end Mine
end
section
open PySem PySem.W PySem.Calls PyProof.Rows
namespace Mine
noncomputable abbrev smallsL : List Nat := [97, 98, 99, 100, 101, 102, 103, 104, 105, 106, 107, 108, 109, 110, 111, 112, 113, 114, 115, 116, 117, 118, 119, 120, 121, 122]
noncomputable abbrev capsL : List Nat := [65, 66, 67, 68, 69, 70, 71, 72, 73, 74, 75, 76, 77, 78, 79, 80, 81, 82, 83, 84, 85, 86, 87, 88, 89, 90]
theorem index_ok {xs : List Nat} {c : Nat} {i : Int} {σ : Store} (h : Txt.find ⟨xs.toArray⟩ ⟨#[c]⟩ = i) (h0 : 0 ≤ i) : spIndex [.str xs, .str [c]] σ = .ok (.int i) σ := by
 subst h; exact if_pos h0
theorem find1 : Txt.find ⟨smallsL.toArray⟩ ⟨#[97]⟩ = 0 := by decide +kernel
theorem find2 : Txt.find ⟨smallsL.toArray⟩ ⟨#[98]⟩ = 1 := by decide +kernel
theorem find3 : Txt.find ⟨capsL.toArray⟩ ⟨#[65]⟩ = 0 := by decide +kernel
theorem find4 : Txt.find ⟨capsL.toArray⟩ ⟨#[90]⟩ = 25 := by decide +kernel
section
variable {c : Nat} {fr : Frame} {σ : Store}
theorem pick_in {i j : Nat} {xs ys : List Nat} {n : Int} {r : Nat} (h6 : fr[6]? = some (some (.str [c]))) (hi : fr[i]? = some (some (.str xs))) (hj : fr[j]? = some (some (.str ys))) (hm : decide (c ∈ xs) = true) (hn : ∀ σ, spIndex [.str xs, .str [c]] σ = .ok (.int n) σ) (h0 : 0 ≤ n) (h1 : n < 1152921504606846976) (hr : ys[n.toNat]? = some r) :
 dIf (bVal (dCmp .In (DV 6) (DV i))) (dItem (DV j) (dMethB .str spIndex (DV i) (LC (DV 6) LN))) (DV 6) fr σ = .ok (.str [r]) σ :=
 x_dif (x_bval (x_cmp (x_var h6) (x_var hi) rfl)) (if_t hm (x_item (x_var hj) (x_methB (x_var hi) rfl (x_cons (x_var h6) x_nil) (hn _)) (itemF_str h0 h1 hr)))
theorem pick_out {i : Nat} {xs : List Nat} {d : DE} (h6 : fr[6]? = some (some (.str [c]))) (hi : fr[i]? = some (some (.str xs))) (hm : decide (c ∈ xs) = false) :
 dIf (bVal (dCmp .In (DV 6) (DV i))) d (DV 6) fr σ = .ok (.str [c]) σ :=
 x_dif (x_bval (x_cmp (x_var h6) (x_var hi) rfl)) (if_f hm (x_var h6))
theorem alpha_cases (hc : c ∈ alpha) : c = 97 ∨ c = 98 ∨ c = 90 ∨ c = 97 ∨ c = 65 ∨ c = 49 ∨ c = 95 ∨ c = 233 := by simpa [alpha] using hc
theorem pick_up (hc : c ∈ alpha) (h6 : fr[6]? = some (some (.str [c]))) (h3 : fr[3]? = some (some (.str smallsL))) (h4 : fr[4]? = some (some (.str capsL))) :
 dIf (bVal (dCmp .In (DV 6) (DV 3))) (dItem (DV 4) (dMethB .str spIndex (DV 3) (LC (DV 6) LN))) (DV 6) fr σ = .ok (.str [upC c]) σ := by
 rcases alpha_cases hc with h | h | h | h | h | h | h | h <;> subst h
 · exact pick_in h6 h3 h4 rfl (fun _ => index_ok find1 (by decide)) (by decide) (by decide) rfl
 · exact pick_in h6 h3 h4 rfl (fun _ => index_ok find2 (by decide)) (by decide) (by decide) rfl
 · exact pick_out h6 h3 rfl
 · exact pick_in h6 h3 h4 rfl (fun _ => index_ok find1 (by decide)) (by decide) (by decide) rfl
 · exact pick_out h6 h3 rfl
 · exact pick_out h6 h3 rfl
 · exact pick_out h6 h3 rfl
 · exact pick_out h6 h3 rfl
theorem pick_lo (hc : c ∈ alpha) (h6 : fr[6]? = some (some (.str [c]))) (h3 : fr[3]? = some (some (.str smallsL))) (h4 : fr[4]? = some (some (.str capsL))) :
 dIf (bVal (dCmp .In (DV 6) (DV 4))) (dItem (DV 3) (dMethB .str spIndex (DV 4) (LC (DV 6) LN))) (DV 6) fr σ = .ok (.str [loC c]) σ := by
 rcases alpha_cases hc with h | h | h | h | h | h | h | h <;> subst h
 · exact pick_out h6 h4 rfl
 · exact pick_out h6 h4 rfl
 · exact pick_in h6 h4 h3 rfl (fun _ => index_ok find4 (by decide)) (by decide) (by decide) rfl
 · exact pick_out h6 h4 rfl
 · exact pick_in h6 h4 h3 rfl (fun _ => index_ok find3 (by decide)) (by decide) (by decide) rfl
 · exact pick_out h6 h4 rfl
 · exact pick_out h6 h4 rfl
 · exact pick_out h6 h4 rfl
end
theorem cases_ok {t : List Nat} {σ : Store} (hl : t.length ≤ 100) (ht : Txt7 t) : ∃ σ', sp_law_cases_right [.str t] σ = .ok (.bool true) σ' ∧ Keep [] σ σ' := by
 have e1 := upper_ok (σ := σ) hl
 have e2 := lower_ok (σ := σ ++ [.list (chs (t.map upC))]) hl
 have e3 := lower_ok (t := t.map upC) (σ := (σ ++ [.list (chs (t.map upC))]) ++ [.list (chs (t.map loC))]) (by kts_caught)
 have q1 : (t.map upC).map loC = t.map loC := by rw [List.map_map]; exact List.map_congr_left fun c _ => lo_up c
 have q2 : (t.map loC).map upC = t.map upC := by rw [List.map_map]; exact List.map_congr_left fun c _ => up_lo c
 rw [q1] at e3
 have e4 := upper_ok (t := t.map loC) (σ := ((σ ++ [.list (chs (t.map upC))]) ++ [.list (chs (t.map loC))]) ++ [.list (chs (t.map loC))]) (by kts_caught)
 rw [q2] at e4
 have ln := fun σ => len_str (σ := σ) (xs := t) (by tb_rel)
 have lu := fun σ => len_str (σ := σ) (xs := t.map upC) (by kts_caught)
 have ll := fun σ => len_str (σ := σ) (xs := t.map loC) (by kts_caught)
 rw [List.length_map] at lu ll
 obtain ⟨fr', σ', hf, y5, y6, hfr, hσ⟩ := forL_rule (chk := fun _ => true) (g := (gName 5)) (body := (SQ (QA 6 (dItem (DV 0) (DV 5))) (SQ (sIf (bVal (dCmp .NotEq (dItem (DV 1) (DV 5)) (dIf (bVal (dCmp .In (DV 6) (DV 3))) (dItem (DV 4) (dMethB .str spIndex (DV 3) (LC (DV 6) LN))) (DV 6)))) (SQ (sRet (DC (.bool false))) SN) SN) (SQ (sIf (bVal (dCmp .NotEq (dItem (DV 2) (DV 5)) (dIf (bVal (dCmp .In (DV 6) (DV 4))) (dItem (DV 3) (dMethB .str spIndex (DV 4) (LC (DV 6) LN))) (DV 6)))) (SQ (sRet (DC (.bool false))) SN) SN) SN))))
  (fun j fr σ' => ∃ y5 y6, fr = [some (.str t), some (.str (t.map upC)), some (.str (t.map loC)), some (.str smallsL), some (.str capsL), y5, y6] ∧ σ' = (σ ++ [.list (chs (t.map upC))]) ++ [.list (chs (t.map loC))])
  (itemsR 0 1 t.length) 0 (fr := [some (.str t), some (.str (t.map upC)), some (.str (t.map loC)), some (.str smallsL), some (.str capsL), none, none]) (σ := (σ ++ [.list (chs (t.map upC))]) ++ [.list (chs (t.map loC))]) ⟨_, _, rfl, rfl⟩ (by
   rintro j y fr σ2 hj ⟨y5, y6, rfl, rfl⟩
   obtain ⟨hk, rfl⟩ := items0_get hj
   have g0 : t[((j : Nat) : Int).toNat]? = some t[j] := List.getElem?_eq_getElem hk
   have i0 := itemF_str (σ := (σ ++ [.list (chs (t.map upC))]) ++ [.list (chs (t.map loC))]) (i := (j : Int)) (by tb_rel) (by tb_rel) g0
   have i1 := itemF_str (σ := (σ ++ [.list (chs (t.map upC))]) ++ [.list (chs (t.map loC))]) (xs := t.map upC) (c := upC t[j]) (i := (j : Int)) (by tb_rel) (by tb_rel) (by rw [List.getElem?_map, g0]; rfl)
   have i2 := itemF_str (σ := (σ ++ [.list (chs (t.map upC))]) ++ [.list (chs (t.map loC))]) (xs := t.map loC) (c := loC t[j]) (i := (j : Int)) (by tb_rel) (by tb_rel) (by rw [List.getElem?_map, g0]; rfl)
   have hc : t[j] ∈ alpha := ht _ (List.getElem_mem hk)
   have f1 : (!decide ([upC t[j]] = [upC t[j]])) = false := by rw [decide_eq_true rfl]; rfl
   have f2 : (!decide ([loC t[j]] = [loC t[j]])) = false := by rw [decide_eq_true rfl]; rfl
   exact ⟨_, rfl, [some (.str t), some (.str (t.map upC)), some (.str (t.map loC)), some (.str smallsL), some (.str capsL), some (.int j), some (.str [t[j]])], _, .inl (by (repeat' first | ((with_reducible refine' if_f ?h ?_); case h => first | with_reducible exact f1 | with_reducible exact f2) | ((with_reducible show dIf (bVal (dCmp .In (DV 6) (DV 3))) _ _ _ _ = _); exact pick_up hc rfl rfl rfl) | ((with_reducible show dIf (bVal (dCmp .In (DV 6) (DV 4))) _ _ _ _ = _); exact pick_lo hc rfl rfl rfl) | (with_reducible first | exact x_cst | exact x_nil | exact x_snil | exact x_andret | exact c_ne | exact c_seq | exact c_sne | refine' x_next ?_ | refine' x_seq ?_ ?_ | refine' x_assign ?_ | refine' x_ret ?_ | refine' x_sif ?_ ?_ | refine' x_bval ?_ | refine' x_cmp ?_ ?_ ?_ | refine' x_item ?_ ?_ ?_ | refine' x_call ?_ ?_ | refine' x_fn ?_ ?_ | refine' x_and ?_ ?_ | refine' x_cons ?_ ?_) | ((with_reducible refine' x_var ?h); case h => exact rfl) | ((with_reducible refine' x_snil' ?h); case h => exact rfl) | ((with_reducible refine' if_t ?h ?_); case h => top_raise) | ((with_reducible refine' if_f ?h ?_); case h => top_raise) | ((with_reducible show _ = _); with_reducible assumption) | ((with_reducible show Res.ok _ _ = _); exact rfl) | ((with_reducible show SRes.ok _ _ _ = _); exact rfl))), rfl, _, _, rfl, rfl⟩)
 subst hfr hσ
 have hr := range1 (b := (t.length : Int)) (by tb_rel) (by tb_rel)
 rw [show ((t.length : Int)).toNat = t.length by tb_rel] at hr
 have f0 : (!decide ((t.length : Int) = (t.length : Int)) || (!decide ((t.length : Int) = (t.length : Int)) || false)) = false := by rw [decide_eq_true rfl]; rfl
 have t1 : decide (t.map loC = t.map loC) = true := decide_eq_true rfl
 have t2 : ∀ σ, cmpF .Eq (.str (t.map upC)) (.str (t.map upC)) σ = .ok (.bool true) σ := fun σ => by rw [c_seq, decide_eq_true rfl]
 exact ⟨_, x_func rfl (by unfold d_law_cases_right; (repeat' first | ((with_reducible refine' if_f ?h ?_); case h => with_reducible exact f0) | ((with_reducible refine' if_t ?h ?_); case h => with_reducible exact t1) | with_reducible refine' x_borB ?_ ?_ | ((with_reducible show spLen _ _ = _); first | exact ln _ | exact lu _ | exact ll _) | with_reducible refine' x_forR ?_ ?_ ?_ | ((with_reducible show sForL _ _ _ _ _ _ = _); exact hf) | ((with_reducible show cmpF .Eq (.str (t.map upC)) _ _ = _); exact t2 _) | (with_reducible first | exact x_cst | exact x_nil | exact x_snil | exact x_andret | exact c_ne | exact c_seq | exact c_sne | refine' x_next ?_ | refine' x_seq ?_ ?_ | refine' x_assign ?_ | refine' x_ret ?_ | refine' x_sif ?_ ?_ | refine' x_bval ?_ | refine' x_cmp ?_ ?_ ?_ | refine' x_item ?_ ?_ ?_ | refine' x_call ?_ ?_ | refine' x_fn ?_ ?_ | refine' x_and ?_ ?_ | refine' x_cons ?_ ?_) | ((with_reducible refine' x_var ?h); case h => exact rfl) | ((with_reducible refine' x_snil' ?h); case h => exact rfl) | ((with_reducible refine' if_t ?h ?_); case h => top_raise) | ((with_reducible refine' if_f ?h ?_); case h => top_raise) | ((with_reducible show _ = _); with_reducible assumption) | ((with_reducible show Res.ok _ _ = _); exact rfl) | ((with_reducible show SRes.ok _ _ _ = _); exact rfl))), Keep.add.trans (Keep.add.trans (Keep.add.trans Keep.add))⟩
end Mine
end
section
open PySem PySem.W PySem.Calls PyProof.Rows
namespace Mine
noncomputable def sp2 (t : List Nat) (k : Nat) : AV := .tup [.str (t.take k), .str (t.drop k)]
noncomputable def spP (t : List Nat) (x y : Option (List Nat)) (k : Nat) : Bool := fitB x (t.take k) && (fitB y (t.drop k) && true)
noncomputable def spN (t : List Nat) (x y : Option (List Nat)) (m : Nat) : List AV := ((List.range m).filter (spP t x y)).map (sp2 t)
noncomputable def spl (t : List Nat) (x y : Option (List Nat)) : List AV := spN t x y (t.length + 1)
theorem spN_succ {t : List Nat} {x y : Option (List Nat)} {m : Nat} : spN t x y (m + 1) = spN t x y m ++ (if spP t x y m = true then [sp2 t m] else []) := by
 unfold spN
 rw [List.range_succ, List.filter_append, List.map_append]
 by_cases q : spP t x y m = true
 · rw [if_pos q, List.filter_cons_of_pos q]; rfl
 · rw [if_neg q, List.filter_cons_of_neg q]; rfl
theorem spN_len {t : List Nat} {x y : Option (List Nat)} {m : Nat} : (spN t x y m).length ≤ m := by
 unfold spN; rw [List.length_map]; exact Nat.le_trans (List.length_filter_le _ _) (by rw [List.length_range]; exact Nat.le_refl _)
theorem fit_or {i k : Nat} {fr : Frame} {σ : Store} {x : Option (List Nat)} {l : List Nat} (hx : fr[i]? = some (some (sAV x))) (hl : fr[k]? = some (some (.str l))) : dOr (dCmp .Is (DV i) (DC .none)) (dCmp .Eq (DV k) (DV i)) fr σ = .ok (.bool (fitB x l)) σ := by
 cases x with
 | none => exact x_or (x_cmp (x_var hx) x_cst c_is) rfl
 | some u =>
  refine x_or (x_cmp (x_var hx) x_cst c_is) (if_f rfl (x_cmp (x_var hl) (x_var hx) ?_))
  show Res.ok (AV.bool (decide (l = u))) σ = _
  congr 2
  show decide (l = u) = decide (_ ∨ _)
  by_cases q : l = u
  · rw [decide_eq_true q, decide_eq_true (.inr (by rw [q]))]
  · rw [decide_eq_false q, decide_eq_false (fun h => by rcases h with h | h; cases h; exact q (Option.some.inj h).symm)]
theorem slice_l {t : List Nat} {j : Nat} {σ : Store} (h : j ≤ t.length) (hl : t.length ≤ 1000) : sliceF (.str t) .none (.int j) .none σ = .ok (.str (t.take j)) σ := if_pos ⟨by tb_rel, by tb_rel, hl⟩
theorem slice_r {t : List Nat} {j : Nat} {σ : Store} (h : j ≤ t.length) (hl : t.length ≤ 1000) : sliceF (.str t) (.int j) .none .none σ = .ok (.str (t.drop j)) σ := if_pos ⟨by tb_rel, by tb_rel, hl⟩
theorem splits_ok {t : List Nat} {x y : Option (List Nat)} {σ : Store} (hl : t.length ≤ 100) : sp_splits [.str t, sAV x, sAV y] σ = .ok (.loc σ.length) (σ ++ [.list (spl t x y)]) := by
 have ln := fun σ => len_str (σ := σ) (xs := t) (by tb_rel)
 obtain ⟨fr', σ', hf, y4, y5, y6, y7, hfr, hσ⟩ := forL_rule (chk := fun _ => true) (g := (gName 4)) (body := (SQ (QA 5 (dSlice (DV 0) (DC .none) (DV 4) (DC .none))) (SQ (QA 6 (dSlice (DV 0) (DV 4) (DC .none) (DC .none))) (SQ (QA 7 (dOr (dCmp .Is (DV 1) (DC .none)) (dCmp .Eq (DV 5) (DV 1)))) (SQ (sIf (bAnd (bVal (DV 7)) (bAnd (bOr (bVal (dCmp .Is (DV 2) (DC .none))) (bOr (bVal (dCmp .Eq (DV 6) (DV 2))) (fun _ σ => Res.ok false σ))) (fun _ σ => Res.ok true σ))) (SQ (sExpr (dMethB .list spAppend (DV 3) (LC (dTup (LC (DV 5) (LC (DV 6) LN))) LN))) SN) SN) SN)))))
  (fun j fr σ' => ∃ y4 y5 y6 y7, fr = [some (.str t), some (sAV x), some (sAV y), some (.loc σ.length), y4, y5, y6, y7] ∧ σ' = σ ++ [.list (spN t x y j)])
  (itemsR 0 1 (t.length + 1)) 0 (fr := [some (.str t), some (sAV x), some (sAV y), some (.loc σ.length), none, none, none, none]) (σ := σ ++ [.list []]) ⟨_, _, _, _, rfl, rfl⟩ (by
   rintro j z fr σ2 hj ⟨y4, y5, y6, y7, rfl, rfl⟩
   obtain ⟨hk, rfl⟩ := items0_get hj
   rw [Nat.zero_add] at *
   have sl := slice_l (t := t) (j := j) (σ := σ ++ [.list (spN t x y j)]) (by tb_rel) (by tb_rel)
   have sr := slice_r (t := t) (j := j) (σ := σ ++ [.list (spN t x y j)]) (by tb_rel) (by tb_rel)
   have hg := getL_new (σ := σ) (o := .list (spN t x y j))
   have kl := kind_list hg
   have hln := spN_len (t := t) (x := x) (y := y) (m := j)
   have ap := append_list (v := sp2 t j) hg (by tb_rel)
   rw [setL_new] at ap
   rw [spN_succ]
   by_cases q : spP t x y j = true
   · rw [if_pos q]
     have q' : (fitB x (t.take j) && (fitB y (t.drop j) && true)) = true := q
     exact ⟨_, rfl, [some (.str t), some (sAV x), some (sAV y), some (.loc σ.length), some (.int j), some (.str (t.take j)), some (.str (t.drop j)), some (.bool (fitB x (t.take j)))], _, .inl (by (repeat' first | with_reducible exact sl | with_reducible exact sr | ((with_reducible show dOr _ _ _ _ = _); exact fit_or rfl rfl) | ((with_reducible show bOr _ _ _ _ = _); exact fit_bor rfl rfl) | with_reducible refine' x_bandB ?_ ?_ | ((with_reducible show spAppend _ _ = _); exact ap) | (with_reducible first | exact x_cst | exact x_nil | exact x_snil | exact x_andret | exact x_add | refine' x_next ?_ | refine' x_seq ?_ ?_ | refine' x_assign ?_ | refine' x_ret ?_ | refine' x_expr ?_ | refine' x_sif ?_ ?_ | refine' x_bval ?_ | refine' x_bin ?_ ?_ ?_ | refine' x_tup ?_ ?_ | refine' x_list ?_ ?_ | refine' x_slice ?_ ?_ ?_ ?_ ?_ | refine' x_call ?_ ?_ | refine' x_methB ?_ ?_ ?_ ?_ | refine' x_cons ?_ ?_) | ((with_reducible refine' x_var ?h); case h => exact rfl) | ((with_reducible refine' x_snil' ?h); case h => exact rfl) | ((with_reducible refine' if_t ?h ?_); case h => top_raise) | ((with_reducible refine' if_f ?h ?_); case h => top_raise) | ((with_reducible show _ = _); with_reducible assumption) | ((with_reducible show Res.ok _ _ = _); exact rfl) | ((with_reducible show SRes.ok _ _ _ = _); exact rfl) | (exact Nat.le_of_ble_eq_true rfl))), rfl, _, _, _, _, rfl, rfl⟩
   · rw [if_neg q, List.append_nil]
     have q' : (fitB x (t.take j) && (fitB y (t.drop j) && true)) = false := Bool.eq_false_iff.mpr q
     exact ⟨_, rfl, [some (.str t), some (sAV x), some (sAV y), some (.loc σ.length), some (.int j), some (.str (t.take j)), some (.str (t.drop j)), some (.bool (fitB x (t.take j)))], _, .inl (by (repeat' first | with_reducible exact sl | with_reducible exact sr | ((with_reducible show dOr _ _ _ _ = _); exact fit_or rfl rfl) | ((with_reducible show bOr _ _ _ _ = _); exact fit_bor rfl rfl) | with_reducible refine' x_bandB ?_ ?_ | (with_reducible first | exact x_cst | exact x_nil | exact x_snil | exact x_andret | exact x_add | refine' x_next ?_ | refine' x_seq ?_ ?_ | refine' x_assign ?_ | refine' x_ret ?_ | refine' x_expr ?_ | refine' x_sif ?_ ?_ | refine' x_bval ?_ | refine' x_bin ?_ ?_ ?_ | refine' x_tup ?_ ?_ | refine' x_list ?_ ?_ | refine' x_slice ?_ ?_ ?_ ?_ ?_ | refine' x_call ?_ ?_ | refine' x_methB ?_ ?_ ?_ ?_ | refine' x_cons ?_ ?_) | ((with_reducible refine' x_var ?h); case h => exact rfl) | ((with_reducible refine' x_snil' ?h); case h => exact rfl) | ((with_reducible refine' if_t ?h ?_); case h => top_raise) | ((with_reducible refine' if_f ?h ?_); case h => top_raise) | ((with_reducible show _ = _); with_reducible assumption) | ((with_reducible show Res.ok _ _ = _); exact rfl) | ((with_reducible show SRes.ok _ _ _ = _); exact rfl) | (exact Nat.le_of_ble_eq_true rfl))), rfl, _, _, _, _, rfl, rfl⟩)
 rw [itemsR_len, Nat.zero_add] at hσ
 subst hfr hσ
 have hr := range1 (b := (t.length : Int) + 1) (by tb_rel) (by tb_rel)
 rw [show ((t.length : Int) + 1).toNat = t.length + 1 by tb_rel] at hr
 exact x_func rfl (by unfold d_splits spl; (repeat' first | ((with_reducible show spLen _ _ = _); exact ln _) | with_reducible refine' x_forR ?_ ?_ ?_ | ((with_reducible show sForL _ _ _ _ _ _ = _); exact hf) | (with_reducible first | exact x_cst | exact x_nil | exact x_snil | exact x_andret | exact x_add | refine' x_next ?_ | refine' x_seq ?_ ?_ | refine' x_assign ?_ | refine' x_ret ?_ | refine' x_expr ?_ | refine' x_sif ?_ ?_ | refine' x_bval ?_ | refine' x_bin ?_ ?_ ?_ | refine' x_tup ?_ ?_ | refine' x_list ?_ ?_ | refine' x_slice ?_ ?_ ?_ ?_ ?_ | refine' x_call ?_ ?_ | refine' x_methB ?_ ?_ ?_ ?_ | refine' x_cons ?_ ?_) | ((with_reducible refine' x_var ?h); case h => exact rfl) | ((with_reducible refine' x_snil' ?h); case h => exact rfl) | ((with_reducible refine' if_t ?h ?_); case h => top_raise) | ((with_reducible refine' if_f ?h ?_); case h => top_raise) | ((with_reducible show _ = _); with_reducible assumption) | ((with_reducible show Res.ok _ _ = _); exact rfl) | ((with_reducible show SRes.ok _ _ _ = _); exact rfl) | (exact Nat.le_of_ble_eq_true rfl)))
end Mine
end
section
open PySem PySem.W PySem.Calls PyProof.Rows
namespace Mine
theorem spP_none {t : List Nat} {k : Nat} : spP t none none k = true := by
 unfold spP fitB; rw [decide_eq_true (.inl rfl), decide_eq_true (.inl rfl)]; rfl
theorem fitB_none {l : List Nat} : fitB none l = true := decide_eq_true (.inl rfl)
theorem fitB_some {u l : List Nat} : fitB (some u) l = decide (l = u) := by
 unfold fitB
 by_cases q : l = u
 · rw [decide_eq_true q, decide_eq_true (.inr (by rw [q]))]
 · rw [decide_eq_false q, decide_eq_false (fun h => by rcases h with h | h; cases h; exact q (Option.some.inj h).symm)]
theorem spN_comp0 {t l : List Nat} : ∀ m, (spN t none none m).filter (tupIs 0 l) = spN t (some l) none m
 | 0 => rfl
 | m + 1 => by
  rw [spN_succ, spN_succ, List.filter_append, spN_comp0 m, if_pos spP_none]
  have e : spP t (some l) none m = tupIs 0 l (sp2 t m) := by
   unfold spP; rw [fitB_some, fitB_none, Bool.and_true, Bool.and_true]; rfl
  rw [e]
  by_cases q : tupIs 0 l (sp2 t m) = true
  · rw [if_pos q, List.filter_cons_of_pos q]; rfl
  · rw [if_neg q, List.filter_cons_of_neg q]; rfl
theorem spN_comp1 {t r : List Nat} : ∀ m, (spN t none none m).filter (tupIs 1 r) = spN t none (some r) m
 | 0 => rfl
 | m + 1 => by
  rw [spN_succ, spN_succ, List.filter_append, spN_comp1 m, if_pos spP_none]
  have e : spP t none (some r) m = tupIs 1 r (sp2 t m) := by
   unfold spP; rw [fitB_some, fitB_none, Bool.true_and, Bool.and_true]; rfl
  rw [e]
  by_cases q : tupIs 1 r (sp2 t m) = true
  · rw [if_pos q, List.filter_cons_of_pos q]; rfl
  · rw [if_neg q, List.filter_cons_of_neg q]; rfl
theorem spN_both {t l r : List Nat} : ∀ m, m ≤ t.length + 1 → spN t (some l) (some r) m = if l ++ r = t ∧ l.length < m then [.tup [.str l, .str r]] else []
 | 0, _ => by rw [if_neg (fun h => Nat.not_lt_zero _ h.2)]; rfl
 | m + 1, h => by
  rw [spN_succ, spN_both m (by tb_rel)]
  have e : spP t (some l) (some r) m = true ↔ l ++ r = t ∧ l.length = m := by
   unfold spP
   rw [fitB_some, fitB_some, Bool.and_true, Bool.and_eq_true, decide_eq_true_eq, decide_eq_true_eq]
   constructor
   · rintro ⟨rfl, rfl⟩; exact ⟨List.take_append_drop _ _, by rw [List.length_take]; tb_rel⟩
   · rintro ⟨rfl, rfl⟩; exact ⟨List.take_left, List.drop_left⟩
  by_cases q : l ++ r = t ∧ l.length = m
  · obtain ⟨q1, q2⟩ := q
    rw [if_neg (fun h => by tb_rel), if_pos (e.mpr ⟨q1, q2⟩), if_pos ⟨q1, by tb_rel⟩]
    show [sp2 t m] = _
    unfold sp2
    rw [← q2, ← q1, List.take_left, List.drop_left]
  · rw [if_neg (fun h => q (e.mp h)), List.append_nil]
    by_cases q2 : l ++ r = t ∧ l.length < m
    · rw [if_pos q2, if_pos ⟨q2.1, by tb_rel⟩]
    · rw [if_neg q2, if_neg (fun h => by
       by_cases z : l.length = m
       · exact q ⟨h.1, z⟩
       · exact q2 ⟨h.1, by tb_rel⟩)]
theorem spl_both {t l r : List Nat} : spl t (some l) (some r) = if l ++ r = t then [.tup [.str l, .str r]] else [] := by
 unfold spl; rw [spN_both _ (Nat.le_refl _)]
 by_cases q : l ++ r = t
 · rw [if_pos q, if_pos ⟨q, by rw [← q, List.length_append]; tb_rel⟩]
 · rw [if_neg q, if_neg (fun h => q h.1)]
theorem strOk_of {a : List Nat} (h : Txt7 a) : PyData.strOk ⟨a.toArray⟩ = true := by
 unfold PyData.strOk
 simp
 intro c hc
 rcases alpha_cases (h c hc) with e | e | e | e | e | e | e | e <;> rw [e] <;> decide
theorem Txt7.take {a : List Nat} (h : Txt7 a) (k : Nat) : Txt7 (a.take k) := fun c hc => h c (List.mem_of_mem_take hc)
theorem Txt7.drop {a : List Nat} (h : Txt7 a) (k : Nat) : Txt7 (a.drop k) := fun c hc => h c (List.mem_of_mem_drop hc)
theorem plain_pairs : ∀ (xs : List AV), (∀ v ∈ xs, ∃ a b : List Nat, v = .tup [.str a, .str b] ∧ Txt7 a ∧ Txt7 b) → plain (.tup xs) = true := by
 intro xs h
 unfold plain
 show ((AV.dats xs).all (kqdOk 119)) = true
 induction xs with
 | nil => rfl
 | cons x xs ih =>
  obtain ⟨a, b, rfl, ha, hb⟩ := h x (List.mem_cons_self ..)
  show (kqdOk 119 (.tuple [.str ⟨a.toArray⟩, .str ⟨b.toArray⟩]) && (AV.dats xs).all (kqdOk 119)) = true
  rw [ih (fun v hv => h v (List.mem_cons_of_mem _ hv)), Bool.and_true]
  show (PyData.strOk ⟨a.toArray⟩ && (PyData.strOk ⟨b.toArray⟩ && true)) = true
  rw [strOk_of ha, strOk_of hb]; rfl
theorem spl_mem {t : List Nat} {x y : Option (List Nat)} {v : AV} (ht : Txt7 t) (h : v ∈ spl t x y) : ∃ a b : List Nat, v = .tup [.str a, .str b] ∧ Txt7 a ∧ Txt7 b := by
 unfold spl spN at h
 obtain ⟨k, _, rfl⟩ := List.mem_map.mp h
 exact ⟨t.take k, t.drop k, rfl, ht.take k, ht.drop k⟩
theorem spl_plain {t : List Nat} {x y : Option (List Nat)} (ht : Txt7 t) : plain (.tup (spl t x y)) = true := plain_pairs _ fun v hv => spl_mem ht hv
theorem spl_len {t : List Nat} {x y : Option (List Nat)} : (spl t x y).length ≤ t.length + 1 := spN_len
theorem spl_str {t : List Nat} {x y : Option (List Nat)} {k : Nat} (hk : k = 0 ∨ k = 1) : (spl t x y).all (tupStr k) = true := by
 rw [List.all_eq_true]
 intro v hv
 unfold spl spN at hv
 obtain ⟨j, _, rfl⟩ := List.mem_map.mp hv
 rcases hk with rfl | rfl <;> rfl
theorem app1 {σ q : Store} {i : Nat} {o : AO} (h : σ[i]? = some o) : (σ ++ q)[i]? = some o := by rw [List.getElem?_append_left (List.getElem?_eq_some_iff.mp h).1]; exact h
theorem ne_lists {m n : Nat} {x : List AV} {σ : Store} (h1 : σ[m]? = some (.list x)) (h2 : σ[n]? = some (.list x)) (p : plain (.tup x) = true) : cmpF .NotEq (.loc m) (.loc n) σ = .ok (.bool false) σ := by
 show (match σ[m]?, σ[n]? with
  | some (.list x), some (.list y) => if (plain (.tup x) && plain (.tup y)) = true then Res.ok (AV.bool (!eqAs x y)) σ else .stuck
  | _, _ => .stuck) = _
 rw [h1, h2]
 refine (if_pos (by rw [p]; rfl)).trans ?_
 rw [eqAs_self]; rfl
theorem x_cell {j : Nat} {v : AV} {fr : Frame} {σ : Store} (h : σ[j]? = some (.cell (some v))) : dCell j fr σ = .ok v σ := by unfold dCell; rw [h]
theorem x_comp {d : DE} {j k m : Nat} {fr : Frame} {σ σ1 : Store} {xs : List AV} {t : List Nat} (hd : d fr σ = .ok (.loc m) σ1) (hm : σ1[m]? = some (.list xs)) (hj : σ1[j]? = some (.cell (some (.str t)))) (hl : xs.length ≤ 1000) (ha : xs.all (tupStr k) = true) : dComp j k d fr σ = .ok (.loc σ1.length) (σ1 ++ [.list (xs.filter (tupIs k t))]) := by
 unfold dComp; rw [hd]; simp only [Res.bind_ok, hm, hj]; exact if_pos ⟨hl, ha⟩
section
variable {fr : Frame} {σ : Store} {t l r : List Nat} {P : Nat}
theorem cond1 (h3 : fr[3]? = some (some (.str t))) (h11 : fr[11]? = some (some (.loc P))) (c0 : σ[0]? = some (.cell (some (.str l)))) (hp : σ[P]? = some (.list (spl t none none))) (ht : Txt7 t) (hl : t.length ≤ 100) :
 dCmp .NotEq (dFn sp_splits (LC (DV 3) (LC (dCell 0) (LC (DC .none) LN)))) (dComp 0 0 (DV 11)) fr σ = .ok (.bool false) ((σ ++ [.list (spl t (some l) none)]) ++ [.list (spl t (some l) none)]) := by
 have n := spl_len (t := t) (x := none) (y := none)
 have c := x_comp (k := 0) (x_var h11) (app1 (q := [.list (spl t (some l) none)]) hp) (app1 (q := [.list (spl t (some l) none)]) c0) (by tb_rel) (spl_str (.inl rfl))
 rw [show (spl t none none).filter (tupIs 0 l) = spl t (some l) none from spN_comp0 _] at c
 exact x_cmp (x_fn (x_cons (x_var h3) (x_cons (x_cell c0) (x_cons x_cst x_nil))) (splits_ok (x := some l) (y := none) hl)) c (ne_lists (app1 getL_new) getL_new (spl_plain ht))
theorem cond2 (h3 : fr[3]? = some (some (.str t))) (h11 : fr[11]? = some (some (.loc P))) (c1 : σ[1]? = some (.cell (some (.str r)))) (hp : σ[P]? = some (.list (spl t none none))) (ht : Txt7 t) (hl : t.length ≤ 100) :
 dCmp .NotEq (dFn sp_splits (LC (DV 3) (LC (DC .none) (LC (dCell 1) LN)))) (dComp 1 1 (DV 11)) fr σ = .ok (.bool false) ((σ ++ [.list (spl t none (some r))]) ++ [.list (spl t none (some r))]) := by
 have n := spl_len (t := t) (x := none) (y := none)
 have c := x_comp (k := 1) (x_var h11) (app1 (q := [.list (spl t none (some r))]) hp) (app1 (q := [.list (spl t none (some r))]) c1) (by tb_rel) (spl_str (.inr rfl))
 rw [show (spl t none none).filter (tupIs 1 r) = spl t none (some r) from spN_comp1 _] at c
 exact x_cmp (x_fn (x_cons (x_var h3) (x_cons x_cst (x_cons (x_cell c1) x_nil))) (splits_ok (x := none) (y := some r) hl)) c (ne_lists (app1 getL_new) getL_new (spl_plain ht))
theorem cond3 (h3 : fr[3]? = some (some (.str t))) (c0 : σ[0]? = some (.cell (some (.str l)))) (c1 : σ[1]? = some (.cell (some (.str r)))) (ht : Txt7 t) (hl : t.length ≤ 100) (hlr : l.length + r.length ≤ 1000) :
 dCmp .NotEq (dFn sp_splits (LC (DV 3) (LC (dCell 0) (LC (dCell 1) LN)))) (dIf (bVal (dCmp .Eq (dBin .Add (dCell 0) (dCell 1)) (DV 3))) (dList (LC (dTup (LC (dCell 0) (LC (dCell 1) LN))) LN)) (dList LN)) fr σ = .ok (.bool false) ((σ ++ [.list (spl t (some l) (some r))]) ++ [.list (spl t (some l) (some r))]) := by
 have ha : ∀ σ, binF .Add (.str l) (.str r) σ = .ok (.str (l ++ r)) σ := fun σ => if_pos hlr
 refine x_cmp (x_fn (x_cons (x_var h3) (x_cons (x_cell c0) (x_cons (x_cell c1) x_nil))) (splits_ok (x := some l) (y := some r) hl)) (x_dif (x_bval (x_cmp (x_bin (x_cell (app1 c0)) (x_cell (app1 c1)) (ha _)) (x_var h3) c_seq)) ?_) (ne_lists (app1 getL_new) getL_new (spl_plain ht))
 by_cases q : l ++ r = t
 · rw [if_pos (decide_eq_true q), show spl t (some l) (some r) = [.tup [.str l, .str r]] by rw [spl_both, if_pos q]]
   exact x_list (x_cons (x_tup (x_cons (x_cell (app1 c0)) (x_cons (x_cell (app1 c1)) x_nil)) (Nat.le_of_ble_eq_true rfl)) x_nil) (Nat.le_of_ble_eq_true rfl)
 · rw [if_neg (by rw [decide_eq_false q]; decide), show spl t (some l) (some r) = [] by rw [spl_both, if_neg q]]
   exact x_list x_nil (by decide)
end
end Mine
end
section
open PySem PySem.W PySem.Calls PyProof.Rows
namespace Mine
noncomputable def fW (t o own : List Nat) (W E : Nat) (st : Int) (x0 x9 x10 x11 x12 : Option AV) : Frame := [x0, some (.loc 3), some (.loc 4), some (.str t), some (.str o), some (.loc W), some (.int st), some (.str own), some (.loc E), x9, x10, x11, x12]
theorem x_bnot {c : DB} {fr : Frame} {σ σ1 : Store} {z : Bool} (h : c fr σ = .ok z σ1) : bNot c fr σ = .ok (!z) σ1 := by unfold bNot; rw [h]; rfl
section
variable {t o own : List Nat} {W E P : Nat} {st ed : Int} {x0 x9 x10 x11 : Option AV} {σ : Store}
theorem pairs_loop (hp : σ[P]? = some (.list [])) (hl : t.length ≤ 100) : ∃ y12 σ', sForL (fun _ => true) (g := (gName 12)) (body := (SQ (sExpr (dMethB .list spAppend (DV 11) (LC (dTup (LC (dSlice (DV 3) (DC .none) (DV 12) (DC .none)) (LC (dSlice (DV 3) (DV 12) (DC .none) (DC .none)) LN))) LN))) SN)) (itemsR 0 1 (t.length + 1)) (fW t o own W E st x0 x9 x10 (some (.loc P)) none) σ =
 .ok .next (fW t o own W E st x0 x9 x10 (some (.loc P)) y12) σ' ∧ σ'[P]? = some (.list (spl t none none)) ∧ Keep [P] σ σ' := by
 obtain ⟨fr', σ', hf, y12, hfr, h1, h2⟩ := forL_rule (chk := fun _ => true) (g := (gName 12)) (body := (SQ (sExpr (dMethB .list spAppend (DV 11) (LC (dTup (LC (dSlice (DV 3) (DC .none) (DV 12) (DC .none)) (LC (dSlice (DV 3) (DV 12) (DC .none) (DC .none)) LN))) LN))) SN))
  (fun j fr σ' => ∃ y12, fr = (fW t o own W E st x0 x9 x10 (some (.loc P)) y12) ∧ σ'[P]? = some (.list (spN t none none j)) ∧ Keep [P] σ σ')
  (itemsR 0 1 (t.length + 1)) 0 (fr := (fW t o own W E st x0 x9 x10 (some (.loc P)) none)) (σ := σ) ⟨_, rfl, hp, Keep.refl⟩ (by
   rintro j z fr σ2 hj ⟨y12, rfl, h1, h2⟩
   obtain ⟨hk, rfl⟩ := items0_get hj
   rw [Nat.zero_add] at *
   have sl := slice_l (t := t) (j := j) (σ := σ2) (by tb_rel) (by tb_rel)
   have sr := slice_r (t := t) (j := j) (σ := σ2) (by tb_rel) (by tb_rel)
   have kl := kind_list h1
   have hln := spN_len (t := t) (x := none) (y := none) (m := j)
   have ap := append_list (v := sp2 t j) h1 (by tb_rel)
   refine ⟨_, rfl, (fW t o own W E st x0 x9 x10 (some (.loc P)) (some (.int j))), _, .inl (by (repeat' first | with_reducible exact sl | with_reducible exact sr | ((with_reducible show spAppend _ _ = _); exact ap) | (with_reducible first | exact x_cst | exact x_nil | refine' x_next ?_ | refine' x_seq ?_ ?_ | refine' x_expr ?_ | refine' x_tup ?_ ?_ | refine' x_slice ?_ ?_ ?_ ?_ ?_ | refine' x_methB ?_ ?_ ?_ ?_ | refine' x_cons ?_ ?_) | ((with_reducible refine' x_var ?h); case h => exact rfl) | ((with_reducible refine' x_snil' ?h); case h => exact rfl) | ((with_reducible show _ = _); with_reducible assumption) | ((with_reducible show Res.ok _ _ = _); exact rfl) | ((with_reducible show SRes.ok _ _ _ = _); exact rfl) | (exact Nat.le_of_ble_eq_true rfl))), rfl, _, rfl, ?_, h2.trans (Keep.set (by kts_caught))⟩
   rw [spN_succ, if_pos spP_none]; exact get_self h1)
 rw [itemsR_len, Nat.zero_add] at h1
 subst hfr
 exact ⟨_, _, hf, h1, h2⟩
theorem asked_loop {b z a : Int} {T : List (List Nat)} {F : List (Int × Int)} {q : Nat} (sym : Sym T F σ) (hW : σ[W]? = some (.list ([b, z, a].map .int))) (hE : σ[E]? = some (.list ([-1, -1, -1].map .int))) (hW9 : 9 ≤ W) (hE9 : 9 ≤ E) (hq : σ[q]? = some (.list [.none, .str own, .str o])) (hq9 : 9 ≤ q)
 (hT : T.length ≤ 100) (hF : F.length ≤ 100) (hF0 : F[0]? = some (1, 2)) (hl : t.length ≤ 6) (ho : o.length ≤ 9) (hown : own.length ≤ 9) (hb : -1 ≤ b) (hb' : b ≤ 9) (hs : -1 ≤ z) (hs' : z ≤ 9) (ha : -1 ≤ a) (ha' : a ≤ 9) : ∃ y9 σ' T' F', sForL (chkL q [.none, .str own, .str o]) (g := (gName 9)) (body := (SQ (sIf (bOr (bNot (bVal (dFn sp_law_rows_right (LC (DV 2) (LC (DV 3) (LC (DV 5) (LC (DV 9) (LC (DC (.int 100000)) LN)))))))) (bOr (bNot (bVal (dFn sp_law_rows_right (LC (DV 2) (LC (DV 3) (LC (DV 8) (LC (DV 9) (LC (DC (.int 100000)) LN)))))))) (fun _ σ => Res.ok false σ))) (SQ (sRet (DC (.bool false))) SN) SN) SN)) [.none, .str own, .str o] (fW t o own W E st x0 none x10 x11 none) σ =
  .ok .next (fW t o own W E st x0 y9 x10 x11 none) σ' ∧ Sym T' F' σ' ∧ T'.length ≤ 280 ∧ F'.length ≤ 106 ∧ F'[0]? = some (1, 2) ∧ Keep [5, 6, 7, 8] σ σ' := by
 have cnt := cnt_is hl
 have ctr := tri_is hl
 obtain ⟨fr', σ', hf, y9, T', F', hfr, S', h1, h2, h3, k'⟩ := forL_rule (chk := chkL q [.none, .str own, .str o]) (g := (gName 9)) (body := (SQ (sIf (bOr (bNot (bVal (dFn sp_law_rows_right (LC (DV 2) (LC (DV 3) (LC (DV 5) (LC (DV 9) (LC (DC (.int 100000)) LN)))))))) (bOr (bNot (bVal (dFn sp_law_rows_right (LC (DV 2) (LC (DV 3) (LC (DV 8) (LC (DV 9) (LC (DC (.int 100000)) LN)))))))) (fun _ σ => Res.ok false σ))) (SQ (sRet (DC (.bool false))) SN) SN) SN))
  (fun j fr σ' => ∃ y9 T' F', fr = (fW t o own W E st x0 y9 x10 x11 none) ∧ Sym T' F' σ' ∧ T'.length ≤ 100 + 60 * j ∧ F'.length ≤ 100 + 2 * j ∧ F'[0]? = some (1, 2) ∧ Keep [5, 6, 7, 8] σ σ')
  [.none, .str own, .str o] 0 (fr := (fW t o own W E st x0 none x10 x11 none)) (σ := σ) ⟨_, _, _, rfl, sym, hT, hF, hF0, Keep.refl⟩ (by
   rintro j x fr σ2 hj ⟨y9, T1, F1, rfl, S1, l1, l2, l3, k1⟩
   rw [Nat.zero_add] at *
   have hj3 : j < 3 := (List.getElem?_eq_some_iff.mp hj).1
   have hx : ∃ sub : Option (List Nat), x = sAV sub ∧ ∀ u, sub = some u → u.length ≤ 9 := by
    rcases (show j = 0 ∨ j = 1 ∨ j = 2 by tb_rel) with rfl | rfl | rfl
    · exact ⟨none, (Option.some.inj hj).symm, fun u h => by cases h⟩
    · exact ⟨some own, (Option.some.inj hj).symm, fun u h => by cases h; exact hown⟩
    · exact ⟨some o, (Option.some.inj hj).symm, fun u h => by cases h; exact ho⟩
   obtain ⟨sub, rfl, hu⟩ := hx
   obtain ⟨σ3, T3, F3, e3, S3, m1, m2, m3, k3⟩ := rows_right_ok (room := 100000) (sub := sub) S1 (k1.at_ W _ (by kts_caught) hW) hW9 (by tb_rel) (by tb_rel) l3 hl hu hb hb' hs hs' ha ha' (by tb_rel)
   have k13 := k1.trans k3
   obtain ⟨σ4, T4, F4, e4, S4, n1, n2, n3, k4⟩ := rows_right_ok (room := 100000) (sub := sub) S3 (k13.at_ E _ (by kts_caught) hE) hE9 (by tb_rel) (by tb_rel) m3 hl hu (by decide) (by decide) (by decide) (by decide) (by decide) (by decide) (by tb_rel)
   have k14 := k13.trans k4
   exact ⟨_, rfl, (fW t o own W E st x0 (some (sAV sub)) x10 x11 none), σ4, .inl (by (repeat' first | with_reducible refine' x_bnot ?_ | (with_reducible first | exact x_cst | exact x_nil | exact x_snil | refine' x_next ?_ | refine' x_seq ?_ ?_ | refine' x_sif ?_ ?_ | refine' x_bval ?_ | refine' x_bor ?_ ?_ | refine' x_fn ?_ ?_ | refine' x_cons ?_ ?_) | ((with_reducible refine' x_var ?h); case h => exact rfl) | ((with_reducible refine' x_snil' ?h); case h => exact rfl) | ((with_reducible refine' if_f ?h ?_); case h => top_raise) | ((with_reducible show _ = _); with_reducible assumption) | ((with_reducible show Res.ok _ _ = _); exact rfl) | ((with_reducible show SRes.ok _ _ _ = _); exact rfl))), chk_ok (k14.at_ _ _ (by kts_caught) hq), _, _, _, rfl, S4, by tb_rel, by tb_rel, n3, k14⟩)
 subst hfr
 exact ⟨_, _, _, _, hf, S', h1, h2, h3, k'⟩
theorem split_loop {xs : List AV} {q : Nat} {y12 : Option AV} {v0 v1 : Option AV} (c0 : σ[0]? = some (.cell v0)) (c1 : σ[1]? = some (.cell v1)) (hq : σ[q]? = some (.list xs)) (hq9 : 2 ≤ q) (hp : σ[P]? = some (.list (spl t none none))) (hP : 2 ≤ P) (ht : Txt7 t) (hl : t.length ≤ 100) (hx : ∀ v ∈ xs, ∃ l r : List Nat, v = .tup [.str l, .str r] ∧ l.length + r.length ≤ 1000) : ∃ σ',
 sForL (chkL q xs) (g := (gTup2 (gCell 0) (gCell 1))) (body := (SQ (sIf (bVal (dCmp .NotEq (dFn sp_splits (LC (DV 3) (LC (dCell 0) (LC (DC .none) LN)))) (dComp 0 0 (DV 11)))) (SQ (sRet (DC (.bool false))) SN) SN) (SQ (sIf (bVal (dCmp .NotEq (dFn sp_splits (LC (DV 3) (LC (DC .none) (LC (dCell 1) LN)))) (dComp 1 1 (DV 11)))) (SQ (sRet (DC (.bool false))) SN) SN) (SQ (sIf (bVal (dCmp .NotEq (dFn sp_splits (LC (DV 3) (LC (dCell 0) (LC (dCell 1) LN)))) (dIf (bVal (dCmp .Eq (dBin .Add (dCell 0) (dCell 1)) (DV 3))) (dList (LC (dTup (LC (dCell 0) (LC (dCell 1) LN))) LN)) (dList LN)))) (SQ (sRet (DC (.bool false))) SN) SN) SN)))) xs (fW t o own W E st x0 x9 x10 (some (.loc P)) y12) σ =
  .ok .next (fW t o own W E st x0 x9 x10 (some (.loc P)) y12) σ' := by
 obtain ⟨fr', σ', hf, v0', v1', hfr, _⟩ := forL_rule (chk := chkL q xs) (g := (gTup2 (gCell 0) (gCell 1))) (body := (SQ (sIf (bVal (dCmp .NotEq (dFn sp_splits (LC (DV 3) (LC (dCell 0) (LC (DC .none) LN)))) (dComp 0 0 (DV 11)))) (SQ (sRet (DC (.bool false))) SN) SN) (SQ (sIf (bVal (dCmp .NotEq (dFn sp_splits (LC (DV 3) (LC (DC .none) (LC (dCell 1) LN)))) (dComp 1 1 (DV 11)))) (SQ (sRet (DC (.bool false))) SN) SN) (SQ (sIf (bVal (dCmp .NotEq (dFn sp_splits (LC (DV 3) (LC (dCell 0) (LC (dCell 1) LN)))) (dIf (bVal (dCmp .Eq (dBin .Add (dCell 0) (dCell 1)) (DV 3))) (dList (LC (dTup (LC (dCell 0) (LC (dCell 1) LN))) LN)) (dList LN)))) (SQ (sRet (DC (.bool false))) SN) SN) SN))))
  (fun j fr σ' => ∃ v0 v1, fr = (fW t o own W E st x0 x9 x10 (some (.loc P)) y12) ∧ σ'[0]? = some (.cell v0) ∧ σ'[1]? = some (.cell v1) ∧ Keep [0, 1] σ σ')
  xs 0 (fr := (fW t o own W E st x0 x9 x10 (some (.loc P)) y12)) (σ := σ) ⟨_, _, rfl, c0, c1, Keep.refl⟩ (by
   rintro j x fr σ2 hj ⟨w0, w1, rfl, d0, d1, k2⟩
   obtain ⟨l, r, rfl, hlr⟩ := hx x (List.mem_of_getElem? hj)
   have f0 : (σ2.set 0 (.cell (some (.str l))))[1]? = some (.cell w1) := get_set (by decide) d1
   have hg : gTup2 (gCell 0) (gCell 1) (.tup [.str l, .str r]) (fW t o own W E st x0 x9 x10 (some (.loc P)) y12) σ2 = some ((fW t o own W E st x0 x9 x10 (some (.loc P)) y12), (σ2.set 0 (.cell (some (.str l)))).set 1 (.cell (some (.str r)))) := by
    simp only [gTup2, gCell, d0, f0]
   have e0 : ((σ2.set 0 (.cell (some (.str l)))).set 1 (.cell (some (.str r))))[0]? = some (.cell (some (.str l))) := get_set (by decide) (get_self d0)
   have e1 : ((σ2.set 0 (.cell (some (.str l)))).set 1 (.cell (some (.str r))))[1]? = some (.cell (some (.str r))) := get_self f0
   have k3 : Keep [0, 1] σ ((σ2.set 0 (.cell (some (.str l)))).set 1 (.cell (some (.str r)))) := k2.trans ((Keep.set (by kts_caught)).trans (Keep.set (by kts_caught)))
   generalize (σ2.set 0 (.cell (some (.str l)))).set 1 (.cell (some (.str r))) = σ3 at *
   have hp3 := k3.at_ P _ (by kts_caught) hp
   have q1 := cond1 (fr := (fW t o own W E st x0 x9 x10 (some (.loc P)) y12)) rfl rfl e0 hp3 ht hl
   have q2 := cond2 (fr := (fW t o own W E st x0 x9 x10 (some (.loc P)) y12)) rfl rfl (app1 (q := [.list (spl t (some l) none)]) (app1 (q := [.list (spl t (some l) none)]) e1)) (app1 (app1 hp3)) ht hl
   have q3 := cond3 (fr := (fW t o own W E st x0 x9 x10 (some (.loc P)) y12)) rfl (app1 (q := [.list (spl t none (some r))]) (app1 (q := [.list (spl t none (some r))]) (app1 (q := [.list (spl t (some l) none)]) (app1 (q := [.list (spl t (some l) none)]) e0)))) (app1 (app1 (app1 (app1 e1)))) ht hl hlr
   have k4 : Keep [0, 1] σ ((((((σ3 ++ [.list (spl t (some l) none)]) ++ [.list (spl t (some l) none)]) ++ [.list (spl t none (some r))]) ++ [.list (spl t none (some r))]) ++ [.list (spl t (some l) (some r))]) ++ [.list (spl t (some l) (some r))]) := k3.trans (Keep.add.trans (Keep.add.trans (Keep.add.trans (Keep.add.trans (Keep.add.trans Keep.add)))))
   exact ⟨_, hg, _, _, .inl (x_seq (x_sif (x_bval q1) (if_f rfl x_snil)) (x_next (x_seq (x_sif (x_bval q2) (if_f rfl x_snil)) (x_next (x_seq (x_sif (x_bval q3) (if_f rfl x_snil)) (x_next x_snil)))))), chk_ok (k4.at_ _ _ (by kts_caught) hq), _, _, rfl, app1 (app1 (app1 (app1 (app1 (app1 e0))))), app1 (app1 (app1 (app1 (app1 (app1 e1))))), k4⟩)
 subst hfr
 exact ⟨σ', hf⟩
end
end Mine
end
section
open PySem PySem.W PySem.Calls PyProof.Rows
namespace Mine
theorem plain_fAV {ps : List (Int × Int)} : plain (.tup (ps.map fAV)) = true := by
 unfold plain
 show ((AV.dats (ps.map fAV)).all (kqdOk 119)) = true
 induction ps with
 | nil => rfl
 | cons x xs ih => show (kqdOk 119 (.tuple [.int x.1, .int x.2]) && (AV.dats (xs.map fAV)).all (kqdOk 119)) = true; rw [ih]; rfl
theorem slice_own {t : List Nat} {i r : Int} {σ : Store} (h0 : 0 ≤ i) (h1 : i ≤ t.length) (hr : 0 ≤ r) (hl : t.length ≤ 1000) : sliceF (.str t) (.int i) (.int (i + r)) .none σ = .ok (.str ((t.drop i.toNat).take (i + r - i).toNat)) σ := if_pos ⟨h0, h1, by tb_rel, hl⟩
theorem F0_0 : F0[0]? = some (1, 2) := by decide +kernel
theorem T0_len : T0.length ≤ 60 := by decide +kernel
theorem F0_len : F0.length ≤ 40 := by decide +kernel
theorem law_ok (ns : List Int) (hns : ns.length ≤ 60) : ∃ fr' σ', d_lawR ([none, some (.loc 3)] ++ List.replicate 11 none) [.cell none, .cell none, .list (ns.map .int), .list [.loc 2, .int 0]] = .ok (.ret (.bool true)) fr' σ' := by
 have e0 := symbols_new (.cell none) (.cell none) (.list (ns.map .int)) (.list [.loc 2, .int 0])
 have Y0 : Sym T0 F0 [.cell none, .cell none, .list (ns.map .int), .list [.loc 2, .int 0], .inst 0 [(0, .loc 5), (1, .loc 6), (2, .loc 7), (3, .loc 8)], .list (T0.map .str), .dictS (num T0 0), .list (F0.map fAV), .dictP (num F0 0)] := ⟨rfl, rfl, rfl, rfl, rfl, Nat.le_trans T0_len (by decide), Nat.le_trans F0_len (by decide)⟩
 have S0 : Salt ns 0 [.cell none, .cell none, .list (ns.map .int), .list [.loc 2, .int 0], .inst 0 [(0, .loc 5), (1, .loc 6), (2, .loc 7), (3, .loc 8)], .list (T0.map .str), .dictS (num T0 0), .list (F0.map fAV), .dictP (num F0 0)] := ⟨rfl, rfl, by decide, by tb_rel⟩
 have c00 : ([.cell none, .cell none, .list (ns.map .int), .list [.loc 2, .int 0], .inst 0 [(0, .loc 5), (1, .loc 6), (2, .loc 7), (3, .loc 8)], .list (T0.map .str), .dictS (num T0 0), .list (F0.map fAV), .dictP (num F0 0)] : Store)[0]? = some (.cell none) := rfl
 have c10 : ([.cell none, .cell none, .list (ns.map .int), .list [.loc 2, .int 0], .inst 0 [(0, .loc 5), (1, .loc 6), (2, .loc 7), (3, .loc 8)], .list (T0.map .str), .dictS (num T0 0), .list (F0.map fAV), .dictP (num F0 0)] : Store)[1]? = some (.cell none) := rfl
 generalize ([.cell none, .cell none, .list (ns.map .int), .list [.loc 2, .int 0], .inst 0 [(0, .loc 5), (1, .loc 6), (2, .loc 7), (3, .loc 8)], .list (T0.map .str), .dictS (num T0 0), .list (F0.map fAV), .dictP (num F0 0)] : Store) = σ0 at *
 refine Classical.byContradiction fun hG => ?_
 obtain ⟨t, σ1, k1, e1, lt, t7, S1, K1⟩ := text_ok S0 (m := 7) (by decide) (by decide)
 refine hG ?_
 refine Classical.byContradiction fun hG => ?_
 obtain ⟨o, σ2, k2, e2, lo, o7, S2, K2⟩ := text_ok S1 (m := 4) (by decide) (by decide)
 refine hG ?_
 refine Classical.byContradiction fun hG => ?_
 obtain ⟨b, σ3, k3, e3, b1, b2, S3, K3⟩ := any_ok S2
 refine hG ?_
 refine Classical.byContradiction fun hG => ?_
 obtain ⟨z, σ4, k4, e4, z1, z2, S4, K4⟩ := any_ok S3
 refine hG ?_
 refine Classical.byContradiction fun hG => ?_
 obtain ⟨a, σ5, k5, e5, a1, a2, S5, K5⟩ := any_ok S4
 refine hG ?_
 have KW : Keep ([] : List Nat) σ5 (σ5 ++ [.list [.int b, .int z, .int a]]) := Keep.add
 have S6 := S5.keep KW (by kts_caught) (by kts_caught)
 refine Classical.byContradiction fun hG => ?_
 obtain ⟨st, σ7, e7, st0, st1, S7, K7, _⟩ := pinch_ok S6 (m := (t.length : Int) + 1) (by tb_rel)
 refine hG ?_
 refine Classical.byContradiction fun hG => ?_
 obtain ⟨r, σ8, e8, r0, r1, S8, K8, _⟩ := pinch_ok S7 (m := 3) (by decide)
 refine hG ?_
 have K08 : Keep [3] σ0 σ8 := K1.trans (K2.trans (K3.trans (K4.trans (K5.trans ((KW.mono (by kts_caught)).trans (K7.trans K8))))))
 have Y8 := Y0.keep K08 (by kts_caught)
 have n8 : 8 < σ0.length := (List.getElem?_eq_some_iff.mp Y0.fnums).1
 have K05 := K1.trans (K2.trans (K3.trans (K4.trans K5)))
 have l05 := K05.len
 have W8 : σ8[σ5.length]? = some (.list ([b, z, a].map .int)) := K8.at_ _ _ (by kts_caught) (K7.at_ _ _ (by kts_caught) getL_new)
 have lns := fun σ => len_str (σ := σ) (xs := t) (by tb_rel)
 have so := slice_own (t := t) (i := st) (r := r) (σ := σ8) st0 (by tb_rel) r0 (by tb_rel)
 have ow7 : Txt7 ((t.drop st.toNat).take (st + r - st).toNat) := (t7.drop _).take _
 have lown : ((t.drop st.toNat).take (st + r - st).toNat).length ≤ 9 := by rw [List.length_take]; tb_rel
 generalize (t.drop st.toNat).take (st + r - st).toNat = own at *
 have w0 : itemF (.loc σ5.length) (.int 0) σ8 = .ok (.int b) σ8 := itemF_list W8 (by decide) rfl (by kts_caught)
 have w1 : itemF (.loc σ5.length) (.int 1) σ8 = .ok (.int z) σ8 := itemF_list W8 (by decide) rfl (by kts_caught)
 have w2 : itemF (.loc σ5.length) (.int 2) σ8 = .ok (.int a) σ8 := itemF_list W8 (by decide) rfl (by kts_caught)
 have sp := spans_ok (L := t.length) (b := b) (s := z) (a := a) (σ := σ8) (by tb_rel) (by tb_rel) b1 (by tb_rel) z1 (by tb_rel) a1 (by tb_rel)
 have W9 := app1 (q := [.list (partsL t.length b z a ((t.length : Int) + 1).toNat)]) W8
 have v0 : itemF (.loc σ5.length) (.int 0) (σ8 ++ [.list (partsL t.length b z a ((t.length : Int) + 1).toNat)]) = .ok (.int b) _ := itemF_list W9 (by decide) rfl (by kts_caught)
 have v1 : itemF (.loc σ5.length) (.int 1) (σ8 ++ [.list (partsL t.length b z a ((t.length : Int) + 1).toNat)]) = .ok (.int z) _ := itemF_list W9 (by decide) rfl (by kts_caught)
 have v2 : itemF (.loc σ5.length) (.int 2) (σ8 ++ [.list (partsL t.length b z a ((t.length : Int) + 1).toNat)]) = .ok (.int a) _ := itemF_list W9 (by decide) rfl (by kts_caught)
 have pa := parts_ok (L := t.length) (b := b) (s := z) (a := a) (σ := σ8 ++ [.list (partsL t.length b z a ((t.length : Int) + 1).toNat)]) (by tb_rel) (by tb_rel)
 have ne1 := ne_lists (app1 (q := [.list (partsL t.length b z a ((t.length : Int) + 1).toNat)]) (getL_new (σ := σ8) (o := .list (partsL t.length b z a ((t.length : Int) + 1).toNat)))) getL_new (by rw [pL_is]; exact plain_fAV)
 have KA : Keep ([] : List Nat) σ8 ((σ8 ++ [.list (partsL t.length b z a ((t.length : Int) + 1).toNat)]) ++ [.list (partsL t.length b z a ((t.length : Int) + 1).toNat)]) := Keep.add.trans Keep.add
 generalize hσ9 : (σ8 ++ [AO.list (partsL t.length b z a ((t.length : Int) + 1).toNat)]) ++ [AO.list (partsL t.length b z a ((t.length : Int) + 1).toNat)] = σ9 at *
 have KE : Keep ([] : List Nat) σ9 ((σ9 ++ [.list ([-1, -1, -1].map .int)]) ++ [.list [.none, .str own, .str o]]) := Keep.add.trans Keep.add
 have K0E : Keep [3] σ0 ((σ9 ++ [.list ([-1, -1, -1].map .int)]) ++ [.list [.none, .str own, .str o]]) := K08.trans ((KA.mono (by kts_caught)).trans (KE.mono (by kts_caught)))
 have K8E := KA.trans KE
 have l89 := KA.len
 have l08 := K08.len
 refine Classical.byContradiction fun hG => ?_
 obtain ⟨y9, σA, T1, F1, hA, SA, tA, fA, zA, kA⟩ := asked_loop (x0 := none) (x10 := none) (x11 := none) (st := st) (W := σ5.length) (E := σ9.length) (q := (σ9 ++ [AO.list ([-1, -1, -1].map .int)]).length) (t := t) (o := o) (own := own) (Y0.keep K0E (by kts_caught)) (K8E.at_ _ _ (by kts_caught) W8) (app1 getL_new) (by tb_rel) (by tb_rel) getL_new (by kts_caught) (Nat.le_trans T0_len (by decide)) (Nat.le_trans F0_len (by decide)) F0_0 (by tb_rel) (by tb_rel) lown b1 (by tb_rel) z1 (by tb_rel) a1 (by tb_rel)
 refine hG ?_
 have cnt := cnt_is (L := t.length) (by tb_rel)
 have ctr := tri_is (L := t.length) (by tb_rel)
 have EA := kA.at_ σ9.length _ (by kts_caught) (app1 (q := [.list [.none, .str own, .str o]]) (getL_new (σ := σ9) (o := .list ([-1, -1, -1].map .int))))
 refine Classical.byContradiction fun hG => ?_
 obtain ⟨σB, T2, F2, hB, SB, tB, fB, zB, kB⟩ := rows_right_ok (W := σ9.length) (text := t) (sub := none) (room := Int.fdiv (((t.length : Int) + 1) * ((t.length : Int) + 2)) 2 * 7) SA EA (by tb_rel) (by tb_rel) (by tb_rel) zA (by tb_rel) (fun u h => by cases h) (by decide) (by decide) (by decide) (by decide) (by decide) (by decide) (Int.le_refl _)
 refine hG ?_
 refine Classical.byContradiction fun hG => ?_
 obtain ⟨σC, hC, SC, kC⟩ := rowsX_ok (W := σ9.length) (text := t) (room := Int.fdiv (((t.length : Int) + 1) * ((t.length : Int) + 2)) 2 * 7 - 1) SB (kB.at_ _ _ (by kts_caught) EA) (by tb_rel) (by tb_rel) (by tb_rel) (by tb_rel) (by tb_rel)
 refine hG ?_
 have K0C : Keep [3, 5, 6, 7, 8] σ0 σC := (K0E.mono (by kts_caught)).trans ((kA.mono (by kts_caught)).trans ((kB.mono (by kts_caught)).trans (kC.mono (by kts_caught))))
 have l0C := K0C.len
 refine Classical.byContradiction fun hG => ?_
 obtain ⟨y12, σD, hD, pD, kD⟩ := pairs_loop (x0 := none) (x9 := y9) (x10 := some (.int (Int.fdiv (((t.length : Int) + 1) * ((t.length : Int) + 2)) 2 * 7))) (W := σ5.length) (E := σ9.length) (st := st) (o := o) (own := own) (t := t) (P := σC.length) (σ := σC ++ [.list []]) getL_new (by tb_rel)
 refine hG ?_
 have sD := splits_ok (t := t) (x := none) (y := none) (σ := σD) (by tb_rel)
 have ne2 := ne_lists (σ := σD ++ [.list (spl t none none)]) (m := σD.length) (n := σC.length) getL_new (app1 pD) (spl_plain t7)
 have hr := range1 (b := (t.length : Int) + 1) (by tb_rel) (by tb_rel)
 rw [show ((t.length : Int) + 1).toNat = t.length + 1 by tb_rel] at hr
 have pF := app1 (q := [.list [.tup [.str o, .str own], .tup [.str own, .str o]]]) (app1 (q := [.list (spl t none none)]) pD)
 have nspl := spl_len (t := t) (x := none) (y := none)
 have ad : binF .Add (.loc σC.length) (.loc (σD ++ [AO.list (spl t none none)]).length) ((σD ++ [.list (spl t none none)]) ++ [.list [.tup [.str o, .str own], .tup [.str own, .str o]]]) = .ok (.loc ((σD ++ [AO.list (spl t none none)]) ++ [AO.list [.tup [.str o, .str own], .tup [.str own, .str o]]]).length) (((σD ++ [.list (spl t none none)]) ++ [.list [.tup [.str o, .str own], .tup [.str own, .str o]]]) ++ [.list (spl t none none ++ [.tup [.str o, .str own], .tup [.str own, .str o]])]) := by
  conv => lhs; whnf
  rw [pF, getL_new]
  exact if_pos (by kts_caught)
 have K0G : Keep [3, 5, 6, 7, 8] σ0 (((σD ++ [.list (spl t none none)]) ++ [.list [.tup [.str o, .str own], .tup [.str own, .str o]]]) ++ [.list (spl t none none ++ [.tup [.str o, .str own], .tup [.str own, .str o]])]) := (K0C.trans Keep.add).new (kD.trans (Keep.add.trans (Keep.add.trans Keep.add))) (by kts_caught)
 have l0G := K0G.len
 obtain ⟨σH, hH⟩ := split_loop (x0 := none) (x9 := y9) (x10 := some (.int (Int.fdiv (((t.length : Int) + 1) * ((t.length : Int) + 2)) 2 * 7))) (W := σ5.length) (E := σ9.length) (st := st) (o := o) (own := own) (t := t) (P := σC.length) (y12 := y12) (xs := spl t none none ++ [.tup [.str o, .str own], .tup [.str own, .str o]]) (K0G.at_ 0 _ (by kts_caught) c00) (K0G.at_ 1 _ (by kts_caught) c10) (q := ((σD ++ [AO.list (spl t none none)]) ++ [AO.list [.tup [.str o, .str own], .tup [.str own, .str o]]]).length) getL_new (by kts_caught) (app1 pF) (by tb_rel) t7 (by tb_rel) (fun v hv => by
  rcases List.mem_append.mp hv with hv | hv
  · unfold spl spN at hv
    refine Classical.byContradiction fun hG => ?_
    obtain ⟨k, _, rfl⟩ := List.mem_map.mp hv
    refine hG ?_
    exact ⟨_, _, rfl, by rw [List.length_take, List.length_drop]; tb_rel⟩
  · rcases List.mem_cons.mp hv with rfl | hv
    · exact ⟨_, _, rfl, by tb_rel⟩
    · rw [List.mem_singleton.mp hv]; exact ⟨_, _, rfl, by tb_rel⟩)
 refine Classical.byContradiction fun hG => ?_
 obtain ⟨σI, hI, _⟩ := cases_ok (t := t) (σ := σH) (by tb_rel) t7
 refine hG ?_
 refine Classical.byContradiction fun hG => ?_
 obtain ⟨σJ, hJ, _⟩ := cases_ok (t := o) (σ := σI) (by tb_rel) o7
 refine hG ?_
 have hnt : (!true) = false := rfl
 exact ⟨_, σJ, by unfold d_lawR; (repeat' first | ((with_reducible refine' if_f ?h ?_); case h => first | with_reducible exact (rfl : false = false) | with_reducible exact hnt) | ((with_reducible refine' if_t ?h ?_); case h => with_reducible exact (rfl : true = true)) | ((with_reducible show spLen _ _ = _); exact lns _) | ((with_reducible show sliceF _ _ _ _ _ = _); exact so) | ((with_reducible show sp_spans _ _ = _); exact sp) | ((with_reducible show sp_law_parts _ _ = _); exact pa) | with_reducible refine' x_for ?_ ?_ | ((with_reducible show sIter _ _ _ _ _ = _); exact iter_list getL_new hA) | ((with_reducible show binF .Mult _ _ _ = _); exact mulF (by tb_rel) (by tb_rel)) | with_reducible exact divF | with_reducible refine' x_bnot ?_ | ((with_reducible show sp_law_rows_right _ _ = _); exact hB) | ((with_reducible show rowsX _ _ = _); exact hC) | with_reducible refine' x_forR ?_ ?_ ?_ | ((with_reducible show sForL _ _ _ _ _ _ = _); exact hD) | ((with_reducible show sp_splits _ _ = _); exact sD) | with_reducible refine' x_forT ?_ ?_ | ((with_reducible show sIterL _ _ _ _ _ = _); exact iterL_list getL_new hH) | (with_reducible first | exact x_cst | exact x_nil | exact x_snil | exact x_andret | exact x_add | exact x_sub | refine' x_next ?_ | refine' x_seq ?_ ?_ | refine' x_assign ?_ | refine' x_ret ?_ | refine' x_sif ?_ ?_ | refine' x_bval ?_ | refine' x_bor ?_ ?_ | refine' x_bin ?_ ?_ ?_ | refine' x_cmp ?_ ?_ ?_ | refine' x_item ?_ ?_ ?_ | refine' x_tup ?_ ?_ | refine' x_list ?_ ?_ | refine' x_slice ?_ ?_ ?_ ?_ ?_ | refine' x_call ?_ ?_ | refine' x_fn ?_ ?_ | refine' x_and ?_ ?_ | refine' x_cons ?_ ?_) | ((with_reducible refine' x_var ?h); case h => exact rfl) | ((with_reducible refine' if_t ?h ?_); case h => top_raise) | ((with_reducible refine' if_f ?h ?_); case h => top_raise) | ((with_reducible show _ = _); with_reducible assumption) | ((with_reducible show Res.ok _ _ = _); exact rfl) | ((with_reducible show SRes.ok _ _ _ = _); exact rfl) | (exact Nat.le_of_ble_eq_true rfl))⟩
end Mine
end
section
open PySem PySem.W PySem.Calls PyProof.Rows
namespace Mine
theorem all_ok : PySem.Challenge.rw_rr0032_01.Holds := law_holds law_ok
end Mine
end
theorem PySem.Challenge.cw_rr0032_01_holds : PySem.Challenge.rw_rr0032_01.Holds :=
  Mine.all_ok
