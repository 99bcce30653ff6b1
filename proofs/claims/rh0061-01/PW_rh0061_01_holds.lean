import PyProof.Rows.All
import Wide.All
import OpenK.AllK
import Wide.FinOn
import PySem.Challenge.RW_rh0061_01
set_option Elab.async false
set_option maxRecDepth 100000

section
open PySem PySem.W PyProof.Rows
namespace Mine
set_option maxRecDepth 100000 in
set_option maxHeartbeats 8000000 in
open_top hd for PySem.Challenge.rw_rh0061_01
end Mine
end

section
open PySem PySem.W PyProof.Rows
namespace Mine

abbrev PR : Program := PySem.Challenge.rw_rh0061_01.row.toRowW.prog
abbrev tupOf (its : Array Value) : Obj := { cls := .type "tuple", data := .seq its }

/-! ## the ledger -/
def setAt (news : List (Addr × Obj)) (d : Addr) (o : Obj) : List (Addr × Obj) := news.map fun p => if p.1 = d then (d, o) else p
theorem mem_setAt_self {news : List (Addr × Obj)} {d : Addr} {o o' : Obj} (h : (d, o) ∈ news) : (d, o') ∈ setAt news d o' :=
  List.mem_map.mpr ⟨(d, o), h, if_pos rfl⟩
theorem mem_setAt_ne {news : List (Addr × Obj)} {d : Addr} {o' : Obj} {p : Addr × Obj} (h : p ∈ news) (hd : p.1 ≠ d) : p ∈ setAt news d o' :=
  List.mem_map.mpr ⟨p, h, if_neg hd⟩
theorem news_setAt {h₀ h h' : Heap} {L d : Addr} {news : List (Addr × Obj)} {o o' : Obj} (N : News h₀ L h news) (hm : (d, o) ∈ news) (hs : Heap.SameBut d h h') (ho : h'.get? d = some o') : News h₀ L h' (setAt news d o') := by
  intro p hp
  obtain ⟨q, hq, e⟩ := List.mem_map.mp hp
  by_cases hd : q.1 = d
  · rw [if_pos hd] at e
    subst e
    exact ⟨ho, (N _ hm).2⟩
  · rw [if_neg hd] at e
    subst e
    exact ⟨(hs.2 _ hd).trans (N _ hq).1, (N _ hq).2⟩

/-- one address, one object -/
def Func (news : List (Addr × Obj)) : Prop := ∀ a o o', (a, o) ∈ news → (a, o') ∈ news → o = o'
theorem func_of {h₀ h : Heap} {L : Addr} {news : List (Addr × Obj)} (N : News h₀ L h news) : Func news := fun a o o' h1 h2 => by
  have e1 := (N _ h1).1
  have e2 := (N _ h2).1
  rw [e1] at e2
  exact Option.some.inj e2

/-- all but these lists stands as it stood; the tuples stand -/
structure Keep (S : List Addr) (news news' : List (Addr × Obj)) : Prop where
  rest : ∀ p ∈ news, p.1 ∉ S → p ∈ news'
  tups : ∀ p ∈ news, p.2.cls = .type "tuple" → p ∈ news'
theorem Keep.refl {S : List Addr} {news : List (Addr × Obj)} : Keep S news news := ⟨fun _ h _ => h, fun _ h _ => h⟩
theorem Keep.trans {S : List Addr} {n1 n2 n3 : List (Addr × Obj)} (a : Keep S n1 n2) (b : Keep S n2 n3) : Keep S n1 n3 :=
  ⟨fun p h hs => b.rest p (a.rest p h hs) hs, fun p h hs => b.tups p (a.tups p h hs) hs⟩
theorem Keep.wider {S S' : List Addr} {n1 n2 : List (Addr × Obj)} (a : Keep S n1 n2) (h : ∀ x ∈ S, x ∈ S') : Keep S' n1 n2 :=
  ⟨fun p hp hs => a.rest p hp fun q => hs (h _ q), a.tups⟩
theorem Keep.more {S : List Addr} {n1 n2 : List (Addr × Obj)} (h : ∀ p ∈ n1, p ∈ n2) : Keep S n1 n2 := ⟨fun p hp _ => h p hp, fun p hp _ => h p hp⟩
theorem Keep.cons {S : List Addr} {n1 : List (Addr × Obj)} {q : Addr × Obj} : Keep S n1 (q :: n1) := .more fun _ h => .tail _ h
theorem Keep.set {news : List (Addr × Obj)} {d : Addr} {vs vs' : List Value} {n n' : Nat} (hf : Func news) (hm : (d, listOf vs.toArray n) ∈ news) : Keep [d] news (setAt news d (listOf vs'.toArray n')) :=
  ⟨fun _ hp hs => mem_setAt_ne hp fun e => hs (e ▸ .head _), fun p hp hc => mem_setAt_ne hp fun e => by
    have q := hf d p.2 _ (e ▸ hp) hm
    rw [q] at hc
    exact absurd (Value.type.inj hc) (by decide)⟩
theorem tup_ne_list {news : List (Addr × Obj)} (hf : Func news) {a d : Addr} {vs ws : List Value} {n : Nat} (h1 : (a, tupOf vs.toArray) ∈ news) (h2 : (d, listOf ws.toArray n) ∈ news) : a ≠ d := fun e => by
  have q := hf d _ _ (e ▸ h1) h2
  exact absurd (Value.type.inj (congrArg Obj.cls q)) (by decide)

/-! ## cells -/
inductive Cell where
  | num (i : Int)
  | tup (l : List Int)
inductive CellIs (news : List (Addr × Obj)) : Value → Cell → Prop
  | num (i : Int) (t : Tok) : CellIs news (.int i t) (.num i)
  | tup {a : Addr} {vs : List Value} {l : List Int} : (a, tupOf vs.toArray) ∈ news → IntsAre vs l → CellIs news (.ref a) (.tup l)
theorem CellIs.keep {S : List Addr} {news news' : List (Addr × Obj)} {v : Value} {c : Cell} (k : Keep S news news') (h : CellIs news v c) : CellIs news' v c := by
  cases h with
  | num i t => exact .num i t
  | tup hm hi => exact .tup (k.tups _ hm rfl) hi
inductive CellsAre (news : List (Addr × Obj)) : List Value → List Cell → Prop
  | nil : CellsAre news [] []
  | cons {v vs c cs} : CellIs news v c → CellsAre news vs cs → CellsAre news (v :: vs) (c :: cs)
theorem CellsAre.keep {S : List Addr} {news news' : List (Addr × Obj)} {vs : List Value} {cs : List Cell} (k : Keep S news news') (h : CellsAre news vs cs) : CellsAre news' vs cs := by
  induction h with
  | nil => exact .nil
  | cons a _ ih => exact .cons (a.keep k) ih
theorem CellsAre.length {news : List (Addr × Obj)} {vs : List Value} {cs : List Cell} (h : CellsAre news vs cs) : vs.length = cs.length := by
  induction h with
  | nil => rfl
  | cons _ _ ih => simp [ih]
theorem CellsAre.get {news : List (Addr × Obj)} {vs : List Value} {cs : List Cell} (h : CellsAre news vs cs) : ∀ {p : Nat} {c : Cell}, cs[p]? = some c → ∃ v, vs[p]? = some v ∧ CellIs news v c := by
  induction h with
  | nil => intro p c e; simp at e
  | cons a _ ih =>
    intro p c e
    cases p with
    | zero => simp at e; subst e; exact ⟨_, rfl, a⟩
    | succ p => simp at e; simpa using ih e
theorem CellsAre.set {news : List (Addr × Obj)} {vs : List Value} {cs : List Cell} {v : Value} {c : Cell} (h : CellsAre news vs cs) (hc : CellIs news v c) : ∀ p : Nat, CellsAre news (vs.set p v) (cs.set p c) := by
  induction h with
  | nil => intro p; exact .nil
  | cons a b ih =>
    intro p
    cases p with
    | zero => exact .cons hc b
    | succ p => exact .cons a (ih p)
theorem CellsAre.append {news : List (Addr × Obj)} {vs : List Value} {cs : List Cell} {v : Value} {c : Cell} (h : CellsAre news vs cs) (hc : CellIs news v c) : CellsAre news (vs ++ [v]) (cs ++ [c]) := by
  induction h with
  | nil => exact .cons hc .nil
  | cons a b ih => exact .cons a ih

/-! ## five lists of cells under one list -/
structure Store (news : List (Addr × Obj)) (pa : Addr) (as : List Addr) (A : List (List Cell)) : Prop where
  top : ∃ n, (pa, listOf (as.map Value.ref).toArray n) ∈ news
  five : as.length = 5
  len : A.length = 5
  area : ∀ (i : Nat) (a : Addr) (cs : List Cell), as[i]? = some a → A[i]? = some cs → ∃ vs n, (a, listOf vs.toArray n) ∈ news ∧ CellsAre news vs cs
  nodup : (pa :: as).Nodup
theorem Store.keep {S : List Addr} {news news' : List (Addr × Obj)} {pa : Addr} {as : List Addr} {A : List (List Cell)} (k : Keep S news news') (hd : ∀ x ∈ pa :: as, x ∉ S) (h : Store news pa as A) : Store news' pa as A := by
  obtain ⟨⟨n, ht⟩, h5, hl, ha, hn⟩ := h
  refine ⟨⟨n, k.rest _ ht (hd _ (.head _))⟩, h5, hl, fun i a cs e1 e2 => ?_, hn⟩
  obtain ⟨vs, n', hm, hc⟩ := ha i a cs e1 e2
  exact ⟨vs, n', k.rest _ hm (hd _ (.tail _ (List.mem_of_getElem? e1))), hc.keep k⟩

def setC (A : List (List Cell)) (i p : Nat) (c : Cell) : List (List Cell) := A.modify i fun cs => cs.set p c
def addC (A : List (List Cell)) (i : Nat) (c : Cell) : List (List Cell) := A.modify i fun cs => cs ++ [c]
theorem modify_get {α : Type} {f : α → α} {l : List α} {i j : Nat} {x : α} (h : (l.modify i f)[j]? = some x) : (i = j ∧ ∃ y, l[j]? = some y ∧ x = f y) ∨ (i ≠ j ∧ l[j]? = some x) := by
  rw [List.getElem?_modify] at h
  by_cases e : i = j
  · simp only [e, if_true] at h
    cases hq : l[j]? with
    | none => rw [hq] at h; simp at h
    | some y => rw [hq] at h; simp at h; exact .inl ⟨e, y, rfl, h.symm⟩
  · simp only [e, if_false] at h
    exact .inr ⟨e, by cases hq : l[j]? with
      | none => rw [hq] at h; simp at h
      | some y => rw [hq] at h; simpa using h⟩
theorem Store.change {news : List (Addr × Obj)} {pa : Addr} {as : List Addr} {A : List (List Cell)} {i : Nat} {a : Addr} {cs : List Cell} {vs vs' : List Value} {n n' : Nat} {f : List Cell → List Cell} (hf : Func news) (h : Store news pa as A)
    (ea : as[i]? = some a) (ec : A[i]? = some cs) (hm : (a, listOf vs.toArray n) ∈ news) (hv : CellsAre news vs' (f cs)) :
    Store (setAt news a (listOf vs'.toArray n')) pa as (A.modify i f) := by
  have k : Keep [a] news (setAt news a (listOf vs'.toArray n')) := Keep.set hf hm
  obtain ⟨⟨nt, ht⟩, h5, hl, ha, hn⟩ := h
  have hpa : pa ≠ a := fun e => (List.nodup_cons.mp hn).1 (e ▸ List.mem_of_getElem? ea)
  refine ⟨⟨nt, k.rest _ ht fun q => hpa (List.mem_singleton.mp q)⟩, h5, by simpa using hl, fun j b ds e1 e2 => ?_, hn⟩
  rcases modify_get e2 with ⟨rfl, y, e3, rfl⟩ | ⟨hij, e3⟩
  · rw [ea] at e1
    cases e1
    rw [ec] at e3
    cases e3
    exact ⟨vs', n', mem_setAt_self hm, hv.keep k⟩
  · obtain ⟨ws, nn, hm', hc'⟩ := ha j b ds e1 e3
    refine ⟨ws, nn, k.rest _ hm' fun q => ?_, hc'.keep k⟩
    have hba : b = a := List.mem_singleton.mp q
    subst hba
    obtain ⟨l1, _⟩ := List.getElem?_eq_some_iff.mp ea
    exact hij ((List.getElem?_inj l1 (List.nodup_cons.mp hn).2).mp (ea.trans e1.symm))

/-! ## rules -/
section
variable {prog : Program} {w : World} {A : Around} {E : Value → Shared → Prop} {s : Shared} {h₀ : Heap} {L : Addr} {m : Str → Option Value} {news : List (Addr × Obj)} {value slice : Expr} {a : Addr} {l : List Value} {n : Nat} {k : Int} {u : Tok} {x : Value}
theorem my_tup {Q : Value → Shared → Prop} (N : News h₀ L s.heap news) (hm : (a, tupOf l.toArray) ∈ news) (h0 : 0 ≤ k) (hhi : k < 2 ^ 63) (hx : l[k.toNat]? = some x) (h : Q x s)
    (hs : subscripted slice false (.ref a) (.int k u) = operate [.ref a, .int k u] (getItem (.ref a) (.int k u)) := by with_unfolding_all rfl) (hg : ∀ r, letTemporaryGo value (.ref a) r = pure () := by intro _; with_unfolding_all rfl) :
    wpAny (model prog w) A (subscriptTail value slice (.ref a) (.int k u)) Q E s := by
  obtain ⟨hj, _⟩ := List.getElem?_eq_some_iff.mp hx
  exact kim_tup N hm rfl rfl (by omega) hhi (seqIndex_of h0 (by omega)) hx h hs hg
theorem my_lst {Q : Value → Shared → Prop} (N : News h₀ L s.heap news) (hm : (a, listOf l.toArray n) ∈ news) (h0 : 0 ≤ k) (hfit : k < 2 ^ 63) (hx : l[k.toNat]? = some x) (h : Q x s)
    (hs : subscripted slice false (.ref a) (.int k u) = operate [.ref a, .int k u] (getItem (.ref a) (.int k u)) := by with_unfolding_all rfl) (hg : ∀ r, letTemporaryGo value (.ref a) r = pure () := by intro _; with_unfolding_all rfl) :
    wpAny (model prog w) A (subscriptTail value slice (.ref a) (.int k u)) Q E s := kim_list N hm rfl rfl h0 hfit hx h hs hg
theorem my_get {Q : Value → Shared → Prop} (N : News h₀ L s.heap news) (hm : (a, listOf l.toArray n) ∈ news) (h0 : 0 ≤ k) (hfit : k < 2 ^ 63) (hx : l[k.toNat]? = some x) (h : Q x s) :
    wpAny (model prog w) A (getItem (.ref a) (.int k u)) Q E s :=
  wpAny_getItem_list (PySem.IsL.isList (n := n) (N _ hm).1) h0 hfit (by simpa using hx) h
theorem my_set {Q : Unit → Shared → Prop} (F : Fr h₀ L s.heap m) (N : News h₀ L s.heap news) (hm : (a, listOf l.toArray n) ∈ news) (h0 : 0 ≤ k) (h1 : k.toNat < l.length) (hfit : k < 2 ^ 63)
    (h : ∀ h', Fr h₀ L h' m → News h₀ L h' (setAt news a (listOf (l.set k.toNat x).toArray n)) → Q () { s with heap := h' }) :
    wpAny (model prog w) A (setItem (.ref a) (.int k u) x) Q E s := by
  have z := N _ hm
  have hs : Heap.SameBut a s.heap (s.heap.update a (Obj.mapSeq (·.setIfInBounds k.toNat x))) := Heap.SameBut.update ..
  refine ki_setAt z.1 h0 hfit (by simp; omega) (h _ (F.change hs z.2.1 z.2.2) (news_setAt N hm hs ?_))
  have q := PySem.IsL.update z.1 (fun v => v.setIfInBounds k.toNat x)
  have e : l.toArray.setIfInBounds k.toNat x = (l.set k.toNat x).toArray := by apply Array.toList_inj.mp; simp
  rw [e] at q
  simpa using q
theorem my_append {Q : Value → Shared → Prop} (F : Fr h₀ L s.heap m) (N : News h₀ L s.heap news) (hm : (a, listOf l.toArray n) ∈ news) (hsz : l.length ≤ sizeLine)
    (h : ∀ h', Fr h₀ L h' m → News h₀ L h' (setAt news a (listOf (l ++ [x]).toArray (n + 1))) → Q .none { s with heap := h' }) :
    wpAny (model prog w) A (call (.builtin "list.append") [.ref a, x]) Q E s := by
  have z := N _ hm
  refine append_at (hsz := by simpa using hsz) z.1 fun h' hs ho' => h h' (F.change hs z.2.1 z.2.2) (news_setAt N hm hs ?_)
  rw [ho']
  simp
end

/-- what a call of the def at f with these arguments does, whatever stands around it -/
def Does (w : World) (f : Addr) (args : List Value) (cost : Nat) (news : List (Addr × Obj)) (R : Value → List (Addr × Obj) → Prop) : Prop :=
  ∀ (dp un : Nat) (gd : Option (List Code)) (cn : Str) (cs : Scope) (a : Addr) (ccd : Value) (cl : List (Str × Addr)) (outer : List Env) (A₀ : Around) (base h₀ : Heap) (L : Addr) (m : Str → Option Value) (s : Shared)
    (mean : ExcName → Option Value) (mg mb : Str → Option Value) (Q E : Value → Shared → Prop),
    Below A₀ base outer h₀ → Fr h₀ L s.heap m → (hd.heap_39 w.params).In h₀ → News h₀ L s.heap news → Top hd.view_39 (looseW hd.view_39 []) mean mg mb h₀ → cs.kind = .function → dp + cost < recursionLimit → un + 8 * cost < cLine →
    (∀ r news' h' tk', Fr h₀ L h' m → News h₀ L h' news' → R r news' → Q r { s with heap := h', toks := tk' }) →
    wpAny (model PR w) (ktrTop dp un gd cn cs L a ccd cl outer) (call (.ref f) args) Q E s
end Mine
end

section
open PySem PySem.W PyProof.Rows
namespace Mine
local macro_rules | `(tactic| walk_at "subscriptTail") => `(tactic| (k_here; (with_reducible show wpAny _ _ (subscriptTail _ _ (Value.ref _) (Value.int _ _)) _ _ _); k_dflt (first
  | (refine' my_tup ?k1 ?k2 ?k3 ?k4 ?k5 ?_ ?k6 ?k7; (case k1 => k_asm); (case k2 => k_mem); (case k3 => first | decide | omega); (case k4 => first | decide | omega); (case k5 => first | rfl | assumption); (case k6 => with_unfolding_all rfl); (case k7 => intro _; with_unfolding_all rfl); k_whole)
  | (refine' my_lst ?k1 ?k2 ?k3 ?k4 ?k5 ?_ ?k6 ?k7; (case k1 => k_asm); (case k2 => k_mem); (case k3 => first | decide | omega); (case k4 => first | decide | omega); (case k5 => first | rfl | assumption); (case k6 => with_unfolding_all rfl); (case k7 => intro _; with_unfolding_all rfl); k_whole))))

set_option maxRecDepth 100000 in
set_option maxHeartbeats 8000000 in
theorem d_isptr (w : World) (news : List (Addr × Obj)) (v : Value) (t : Int) (l : List Int) (hc : CellIs news v (.tup (t :: l))) :
    Does w 21 [v] 1 news (fun r news' => news' = news ∧ r = .bool (decide (t = 0 ∨ t = 2 ∨ t = 3))) := by
  unfold Does PR
  k_fill
  intro dp un gd cn cs a ccd cl outer A₀ base h₀ L m s mean mg mb Q E B F X N T hk hd hu hret
  cases hc with
  | tup hm hi =>
  rename_i ta vs
  cases hi with
  | cons n tk hi' =>
  refine wpAny_call ?_
  k_dflt ktr_enter
  k_steps
  all_goals (refine hret _ _ _ _ (by k_asm) (by k_asm) ⟨rfl, ?_⟩; congr 1; (try simp_all); (try (by_cases h3 : t = 3 <;> simp_all)))

theorem Store.at {news : List (Addr × Obj)} {pa : Addr} {as : List Addr} {A : List (List Cell)} {i : Nat} {cs : List Cell} (h : Store news pa as A) (e : A[i]? = some cs) :
    ∃ a vs n, as[i]? = some a ∧ (as.map Value.ref)[i]? = some (.ref a) ∧ (a, listOf vs.toArray n) ∈ news ∧ CellsAre news vs cs := by
  obtain ⟨hl, _⟩ := List.getElem?_eq_some_iff.mp e
  have hi : i < as.length := by rw [h.five, ← h.len]; exact hl
  obtain ⟨vs, n, hm, hc⟩ := h.area i as[i] cs (List.getElem?_eq_getElem hi) e
  exact ⟨as[i], vs, n, List.getElem?_eq_getElem hi, by simp [hi], hm, hc⟩

def hangA (A : List (List Cell)) (area place : Nat) (tag : Int) (address : Nat) (old : Cell) : List (List Cell) :=
  setC (setC A area place old) 0 address (.tup [7, (area : Int), (place : Int), tag])

set_option maxRecDepth 100000 in
set_option maxHeartbeats 8000000 in
theorem d_hang (w : World) (news : List (Addr × Obj)) (pa : Addr) (as : List Addr) (A : List (List Cell)) (area place address : Nat) (tag : Int) (t1 t2 t3 t4 : Tok) (cs hp : List Cell) (old : Cell)
    (hS : Store news pa as A) (ha : A[area]? = some cs) (hp0 : A[0]? = some hp) (hpl : place < cs.length) (hpl' : place < 1000) (had : hp[address]? = some old) (had' : address < 1000) :
    Does w 28 [.ref pa, .int area t1, .int place t2, .int tag t3, .int address t4] 1 news (fun r news' => r = .none ∧ Store news' pa as (hangA A area place tag address old) ∧ Keep as news news') := by
  unfold Does PR
  k_fill
  intro dp un gd cn cs' a ccd cl outer A₀ base h₀ L m s mean mg mb Q E B F X N T hk hd hu hret
  have hf := func_of N
  obtain ⟨np, htop⟩ := hS.top
  obtain ⟨a0, vs0, n0, e0, e0', hm0, hc0⟩ := hS.at hp0
  obtain ⟨a1, vs1, n1, e1, e1', hm1, hc1⟩ := hS.at ha
  obtain ⟨v0, hv0, hv0'⟩ := hc0.get had
  have hlen1 := hc1.length
  have hlt5 : area < 5 := by
    obtain ⟨hl, _⟩ := List.getElem?_eq_some_iff.mp ha
    rw [hS.len] at hl; exact hl
  refine wpAny_call ?_
  k_dflt ktr_enter
  k_steps
  refine my_set (by k_asm) (by k_asm) hm1 (by omega) (by simp only [Int.toNat_natCast]; omega) (by omega) ?_
  intro h1 F1 N1
  have S1 := hS.change (n' := n1) (f := fun cs => cs.set place old) hf e1 ha hm1 (hc1.set hv0' place)
  have g0 : ∃ hp1, (setC A area place old)[0]? = some hp1 ∧ hp1.length = hp.length := by
    unfold setC
    rw [List.getElem?_modify, hp0]
    by_cases h : area = 0
    · exact ⟨hp.set place old, by simp [h], by simp⟩
    · exact ⟨hp, by simp [h], rfl⟩
  obtain ⟨hp1, g0, g1⟩ := g0
  obtain ⟨b0, ws0, k0, e2, e2', hm2, hc2⟩ := S1.at g0
  obtain rfl : a0 = b0 := by rw [e0] at e2; exact Option.some.inj e2
  have hlen2 := hc2.length
  have hlen3 : address < hp.length := (List.getElem?_eq_some_iff.mp had).1
  simp only [Int.toNat_natCast] at N1
  k_steps
  rename News _ _ _ _ => N2
  have hf2 := func_of N2
  have S2 := (S1.keep (Keep.cons (S := [])) (fun _ _ h => nomatch h)).change (n' := k0) (f := fun cs => cs.set address (.tup [7, (area : Int), (place : Int), tag])) hf2 e2 g0 (.tail _ hm2) ((hc2.keep (Keep.cons (S := []))).set (.tup (.head _) (.cons _ _ (.cons _ _ (.cons _ _ (.cons _ _ .nil))))) address)
  have K1 : Keep as news _ := (Keep.set (vs' := vs1.set place v0) (n' := n1) hf hm1).wider (S' := as) (fun x hx => by rw [List.mem_singleton.mp hx]; exact List.mem_of_getElem? e1)
  refine my_set (by k_asm) (by k_asm) (.tail _ hm2) (by omega) (by simp only [Int.toNat_natCast]; omega) (by omega) ?_
  intro h3 F3 N3
  simp only [Int.toNat_natCast] at N3
  k_steps
  exact hret _ _ _ _ (by k_asm) (by k_asm) ⟨rfl, S2, (K1.trans Keep.cons).trans ((Keep.set hf2 (.tail _ hm2)).wider (fun x hx => by rw [List.mem_singleton.mp hx]; exact List.mem_of_getElem? e2))⟩
end Mine
end

section
open PySem PySem.W PyProof.Rows
namespace Mine
def Hold (P : Prop) : Prop := P
theorem does_use {w : World} {f : Addr} {args : List Value} {cost : Nat} {news : List (Addr × Obj)} {R : Value → List (Addr × Obj) → Prop}
    {dp un : Nat} {gd : Option (List Code)} {cn : Str} {cs : Scope} {a : Addr} {ccd : Value} {cl : List (Str × Addr)} {outer : List Env} {A₀ : Around} {base h₀ : Heap} {L : Addr} {m : Str → Option Value} {s : Shared}
    {mean : ExcName → Option Value} {mg mb : Str → Option Value} {Q E : Value → Shared → Prop}
    (B : Below A₀ base outer h₀) (F : Fr h₀ L s.heap m) (X : (hd.heap_39 w.params).In h₀) (N : News h₀ L s.heap news) (T : Top hd.view_39 (looseW hd.view_39 []) mean mg mb h₀) (hk : cs.kind = .function) (C : Does w f args cost news R) (hd' : dp + cost < recursionLimit) (hu : un + 8 * cost < cLine)
    (ret : Hold (∀ r news' h' tk', Fr h₀ L h' m → News h₀ L h' news' → R r news' → Q r { s with heap := h', toks := tk' })) :
    wpAny (model PySem.Challenge.rw_rh0061_01.row.toRowW.prog w) (ktrTop dp un gd cn cs L a ccd cl outer) (call (.ref f) args) Q E s :=
  C _ _ _ _ _ _ _ _ _ _ _ _ _ _ _ _ _ _ _ _ B F X N T hk hd' hu ret

local macro_rules | `(tactic| walk_at "subscriptTail") => `(tactic| (k_here; (with_reducible show wpAny _ _ (subscriptTail _ _ (Value.ref _) (Value.int _ _)) _ _ _); k_dflt (first
  | (refine' my_tup ?k1 ?k2 ?k3 ?k4 ?k5 ?_ ?k6 ?k7; (case k1 => k_asm); (case k2 => k_mem); (case k3 => first | decide | omega); (case k4 => first | decide | omega); (case k5 => first | rfl | assumption); (case k6 => with_unfolding_all rfl); (case k7 => intro _; with_unfolding_all rfl); k_whole)
  | (refine' my_lst ?k1 ?k2 ?k3 ?k4 ?k5 ?_ ?k6 ?k7; (case k1 => k_asm); (case k2 => k_mem); (case k3 => first | decide | omega); (case k4 => first | decide | omega); (case k5 => first | rfl | assumption); (case k6 => with_unfolding_all rfl); (case k7 => intro _; with_unfolding_all rfl); k_whole))))
local macro_rules | `(tactic| walk_at "call ref") => `(tactic| (k_here; k_dflt (refine' does_use ?k1 ?k2 ?k3 ?k4 ?k5 ?k6 ?k7 ?k8 ?k9 ?_; (case k1 => k_asm); (case k2 => k_asm); (case k3 => k_asm); (case k4 => k_asm); (case k5 => k_asm); (case k6 => first | exact rfl | assumption); (case k7 => assumption); (case k8 => ktr_room); (case k9 => ktr_units); k_whole)))

set_option maxRecDepth 100000 in
set_option maxHeartbeats 8000000 in
theorem d_hangroot (w : World) (news : List (Addr × Obj)) (pa : Addr) (as : List Addr) (A : List (List Cell)) (area place address : Nat) (tag : Int) (t1 t2 : Tok) (cs hp : List Cell) (old : Cell)
    (hS : Store news pa as A) (ha : A[area]? = some cs) (hp0 : A[0]? = some hp) (hpl : cs[place]? = some (.tup [tag, (address : Int)])) (hpl' : place < 1000) (had : hp[address]? = some old) (had' : address < 1000) :
    Does w 42 [.ref pa, .int area t1, .int place t2] 2 news (fun r news' => r = .none ∧ Store news' pa as (if tag = 0 ∨ tag = 2 ∨ tag = 3 then hangA A area place tag address old else A) ∧ Keep as news news') := by
  unfold Does PR
  k_fill
  intro dp un gd cn cs' a ccd cl outer A₀ base h₀ L m s mean mg mb Q E B F X N T hk hd hu hret
  have hf := func_of N
  obtain ⟨np, htop⟩ := hS.top
  obtain ⟨a1, vs1, n1, e1, e1', hm1, hc1⟩ := hS.at ha
  obtain ⟨v1, hv1, hv1'⟩ := hc1.get hpl
  have C1 := d_isptr w news v1 _ _ hv1'
  cases hv1' with
  | tup hm hi =>
  rename_i ta vs
  cases hi with
  | cons _ tk1 hi' =>
  cases hi' with
  | cons _ tk2 hi' =>
  cases hi'
  have hlt5 : area < 5 := by
    obtain ⟨hl, _⟩ := List.getElem?_eq_some_iff.mp ha
    rw [hS.len] at hl; exact hl
  have hplt := (List.getElem?_eq_some_iff.mp hpl).1
  have C2 := d_hang w news pa as A area place address tag t1 t2 tk1 tk2 cs hp old hS ha hp0 hplt hpl' had had'
  refine wpAny_call ?_
  k_dflt ktr_enter
  k_steps
  unfold Hold
  intro r1 news1 h1 tk3 F1 N1 hR1
  obtain ⟨rfl, rfl⟩ := hR1
  by_cases hq : tag = 0 ∨ tag = 2 ∨ tag = 3
  · rw [decide_eq_true hq]
    k_steps
    unfold Hold
    intro r2 news2 h2 tk4 F2 N2 hR2
    obtain ⟨rfl, S2, K2⟩ := hR2
    k_steps
    exact hret _ _ _ _ (by k_asm) (by k_asm) ⟨rfl, by rw [if_pos hq]; exact S2, K2⟩
  · rw [decide_eq_false hq]
    k_steps
    exact hret _ _ _ _ (by k_asm) (by k_asm) ⟨rfl, by rw [if_neg hq]; exact hS, Keep.refl⟩
end Mine
end

section
open PySem PySem.W PyProof.Rows
namespace Mine
structure Urn (news : List (Addr × Obj)) (u sc : Addr) : Prop where
  urn : ∃ x p tx tp n, (u, listOf [Value.int x tx, .ref sc, .int p tp].toArray n) ∈ news ∧ 0 ≤ x ∧ 0 ≤ p ∧ p ≤ 60
  src : ∃ vs ns n, (sc, listOf vs.toArray n) ∈ news ∧ IntsAre vs ns ∧ vs.length ≤ 60
  ne : u ≠ sc
theorem Urn.keep {S : List Addr} {news news' : List (Addr × Obj)} {u sc : Addr} (k : Keep S news news') (hu : u ∉ S) (hs : sc ∉ S) (h : Urn news u sc) : Urn news' u sc := by
  obtain ⟨⟨x, p, tx, tp, n, hm, r⟩, ⟨vs, ns, n', hm', r'⟩, hne⟩ := h
  exact ⟨⟨x, p, tx, tp, n, k.rest _ hm hu, r⟩, ⟨vs, ns, n', k.rest _ hm' hs, r'⟩, hne⟩

section
variable {prog : Program} {w : World} {A : Around} {E : Value → Shared → Prop} {s : Shared} {h₀ : Heap} {L : Addr} {news : List (Addr × Obj)} {a : Addr} {l : List Value} {n : Nat}
theorem my_len {Q : Value → Shared → Prop} (N : News h₀ L s.heap news) (hm : (a, listOf l.toArray n) ∈ news) (hfit : l.length ≤ 1000) (h : Q (.int (l.length : Int) (s.toks + 1)) { s with toks := s.toks + 1 + 1 }) :
    wpAny (model prog w) A (call (.builtin "len") [.ref a]) Q E s :=
  len_list (PySem.IsL.isList (n := n) (N _ hm).1) (by simp; omega) (by simpa using h)
end
section
variable {prog : Program} {w : World} {A : Around} {E : Value → Shared → Prop} {s : Shared} {h₀ : Heap} {L : Addr} {m : Str → Option Value} {news : List (Addr × Obj)} {a : Addr} {v0 v1 v2 x : Value} {n : Nat} {t : Tok}
theorem urn_set0 {Q : Unit → Shared → Prop} (F : Fr h₀ L s.heap m) (N : News h₀ L s.heap news) (hm : (a, listOf [v0, v1, v2].toArray n) ∈ news)
    (h : ∀ h' news', Fr h₀ L h' m → News h₀ L h' news' → (a, listOf [x, v1, v2].toArray n) ∈ news' → Keep [a] news news' → Q () { s with heap := h' }) :
    wpAny (model prog w) A (setItem (.ref a) (.int 0 t) x) Q E s :=
  my_set F N hm (by decide) (by simp) (by decide) fun h' F' N' => h h' _ F' N' (mem_setAt_self hm) (Keep.set (func_of N) hm)
theorem urn_set2 {Q : Unit → Shared → Prop} (F : Fr h₀ L s.heap m) (N : News h₀ L s.heap news) (hm : (a, listOf [v0, v1, v2].toArray n) ∈ news)
    (h : ∀ h' news', Fr h₀ L h' m → News h₀ L h' news' → (a, listOf [v0, v1, x].toArray n) ∈ news' → Keep [a] news news' → Q () { s with heap := h' }) :
    wpAny (model prog w) A (setItem (.ref a) (.int 2 t) x) Q E s :=
  my_set F N hm (by decide) (by simp) (by decide) fun h' F' N' => h h' _ F' N' (mem_setAt_self hm) (Keep.set (func_of N) hm)
end
local macro_rules | `(tactic| walk_at "call builtin:len") => `(tactic| (k_here; k_dflt (refine' my_len ?k1 ?k2 ?k3 ?_; (case k1 => k_asm); (case k2 => k_mem); (case k3 => omega); k_whole)))
local macro_rules | `(tactic| walk_at "subscriptTail") => `(tactic| (k_here; (with_reducible show wpAny _ _ (subscriptTail _ _ (Value.ref _) (Value.int _ _)) _ _ _); k_dflt (first
  | (refine' my_tup ?k1 ?k2 ?k3 ?k4 ?k5 ?_ ?k6 ?k7; (case k1 => k_asm); (case k2 => k_mem); (case k3 => first | decide | omega); (case k4 => first | decide | omega); (case k5 => first | rfl | assumption); (case k6 => with_unfolding_all rfl); (case k7 => intro _; with_unfolding_all rfl); k_whole)
  | (refine' my_lst ?k1 ?k2 ?k3 ?k4 ?k5 ?_ ?k6 ?k7; (case k1 => k_asm); (case k2 => k_mem); (case k3 => first | decide | omega); (case k4 => first | decide | omega); (case k5 => first | rfl | assumption); (case k6 => with_unfolding_all rfl); (case k7 => intro _; with_unfolding_all rfl); k_whole))))
local macro_rules | `(tactic| walk_at "getItem ref int") => `(tactic| (k_here; k_dflt (
  (refine' my_get ?k1 ?k2 ?k3 ?k4 ?k5 ?_; (case k1 => k_asm); (case k2 => k_mem); (case k3 => first | decide | omega); (case k4 => first | decide | omega); (case k5 => first | rfl | assumption); k_whole))))

set_option maxRecDepth 100000 in
set_option maxHeartbeats 8000000 in
theorem d_pick (w : World) (news : List (Addr × Obj)) (u sc : Addr) (faces : Int) (tf : Tok) (hf : 0 < faces) (hf' : faces < 1000) (hU : Urn news u sc) :
    Does w 49 [.ref u, .int faces tf] 2 news (fun r news' => (∃ f t, r = .int f t ∧ 0 ≤ f ∧ f < faces) ∧ Urn news' u sc ∧ Keep [u] news news') := by
  unfold Does PR
  k_fill
  intro dp un gd cn cs' a ccd cl outer A₀ base h₀ L m s mean mg mb Q E B F X N T hk hd hu hret
  have hfu := func_of N
  obtain ⟨⟨x, p, tx, tp, n, hmu, hx, hp, hp'⟩, ⟨vs, ns, n', hms, his, hlen⟩, hne⟩ := hU
  refine wpAny_call ?_
  k_dflt ktr_enter
  have hsc : sc ∉ [u] := fun q => hne (List.mem_singleton.mp q).symm
  k_steps
  · refine urn_set0 (by k_asm) (by k_asm) hmu ?_
    intro h1 news1 F1 N1 hmu1 K1
    have hms1 := K1.rest _ hms hsc
    k_steps
    refine urn_set2 (by k_asm) (by k_asm) hmu1 ?_
    intro h2 news2 F2 N2 hmu2 K2
    have hms2 := K2.rest _ hms1 hsc
    k_steps
    refine urn_set0 (by k_asm) (by k_asm) hmu2 ?_
    intro h3 news3 F3 N3 hmu3 K3
    have hms3 := K3.rest _ hms2 hsc
    k_steps
    refine hret _ _ _ _ (by k_asm) (by k_asm) ⟨⟨_, _, rfl, Int.fmod_nonneg_of_pos _ hf, Int.fmod_lt_of_pos _ hf⟩, ⟨⟨_, _, _, _, _, hmu3, Int.fdiv_nonneg (by split <;> omega) (Int.le_of_lt hf), ?_, ?_⟩, ⟨vs, ns, n', hms3, his, hlen⟩, hne⟩, (K1.trans K2).trans K3⟩ <;> omega
  all_goals (
    refine urn_set0 (by k_asm) (by k_asm) hmu ?_
    intro h1 news1 F1 N1 hmu1 K1
    have hms1 := K1.rest _ hms hsc
    k_steps
    refine hret _ _ _ _ (by k_asm) (by k_asm) ⟨⟨_, _, rfl, Int.fmod_nonneg_of_pos _ hf, Int.fmod_lt_of_pos _ hf⟩, ⟨⟨_, _, _, _, _, hmu1, Int.fdiv_nonneg hx (Int.le_of_lt hf), hp, hp'⟩, ⟨vs, ns, n', hms1, his, hlen⟩, hne⟩, K1⟩)
end Mine
end

section
open PySem PySem.W PyProof.Rows
namespace Mine

inductive Chain (A : List (List Cell)) : Cell → List (Nat × Nat × Int) → Cell → Prop
  | nil {t : Int} {r : List Int} : t ≠ 7 → Chain A (.tup (t :: r)) [] (.tup (t :: r))
  | cons {a p : Nat} {t : Int} {cs : List Cell} {c base : Cell} {rest : List (Nat × Nat × Int)} : A[a]? = some cs → cs[p]? = some c → p < 1000 → (∀ q ∈ rest, (q.1, q.2.1) ≠ (a, p)) → Chain A c rest base → Chain A (.tup [7, (a : Int), (p : Int), t]) ((a, p, t) :: rest) base

def newCell (target : Int) (q : Nat × Nat × Int) : Cell := if q.1 = 4 then .num target else .tup [q.2.2, target]
def relA (A : List (List Cell)) (links : List (Nat × Nat × Int)) (target : Int) : List (List Cell) :=
  links.foldl (fun A q => setC A q.1 q.2.1 (newCell target q)) A

theorem setC_ne {A : List (List Cell)} {i p j q : Nat} {c x : Cell} {cs : List Cell} (h1 : A[j]? = some cs) (h2 : cs[q]? = some x) (h : (j, q) ≠ (i, p)) : ∃ ds, (setC A i p c)[j]? = some ds ∧ ds[q]? = some x ∧ ds.length = cs.length := by
  unfold setC
  rw [List.getElem?_modify, h1]
  by_cases e : i = j
  · subst e
    refine ⟨cs.set p c, by simp, ?_, by simp⟩
    have hne : p ≠ q := fun e => h (by rw [e])
    rw [List.getElem?_set_ne hne]
    exact h2
  · exact ⟨cs, by simp [e], h2, rfl⟩
theorem setC_len {A : List (List Cell)} {i p j : Nat} {c : Cell} {cs : List Cell} (h1 : A[j]? = some cs) : ∃ ds, (setC A i p c)[j]? = some ds ∧ ds.length = cs.length := by
  unfold setC
  rw [List.getElem?_modify, h1]
  by_cases e : i = j
  · subst e
    exact ⟨cs.set p c, by simp, by simp⟩
  · exact ⟨cs, by simp [e], rfl⟩
theorem Chain.set {A : List (List Cell)} {c base : Cell} {links : List (Nat × Nat × Int)} (h : Chain A c links base) {i p : Nat} {x : Cell} (hn : ∀ q ∈ links, (q.1, q.2.1) ≠ (i, p)) : Chain (setC A i p x) c links base := by
  induction h with
  | nil h => exact .nil h
  | cons e1 e2 hp hd _ ih =>
    obtain ⟨ds, h1, h2, _⟩ := setC_ne (c := x) e1 e2 (hn _ (.head _))
    exact .cons h1 h2 hp hd (ih fun q hq => hn q (.tail _ hq))

theorem fr_puts {h₀ h : Heap} {L : Addr} {m : Str → Option Value} (ps : List (Str × Value)) (F : Fr h₀ L h m) (e : ∀ p ∈ ps, m p.1 = some p.2) : Fr h₀ L h (kstB m ps) := by
  have q : kstB m ps = m := by
    funext y
    exact kstB_eq e fun _ => rfl
  rw [q]; exact F
theorem all5 {m : Str → Option Value} {x1 x2 x3 x4 x5 : Str} {v1 v2 v3 v4 v5 : Value} (h1 : m x1 = some v1) (h2 : m x2 = some v2) (h3 : m x3 = some v3) (h4 : m x4 = some v4) (h5 : m x5 = some v5) : ∀ p ∈ [(x1, v1), (x2, v2), (x3, v3), (x4, v4), (x5, v5)], m p.1 = some p.2 := by
  intro p hp
  simp only [List.mem_cons, List.not_mem_nil, or_false] at hp
  rcases hp with rfl | rfl | rfl | rfl | rfl <;> assumption

local macro_rules | `(tactic| walk_at "subscriptTail") => `(tactic| (k_here; (with_reducible show wpAny _ _ (subscriptTail _ _ (Value.ref _) (Value.int _ _)) _ _ _); k_dflt (first
  | (refine' my_tup ?k1 ?k2 ?k3 ?k4 ?k5 ?_ ?k6 ?k7; (case k1 => k_asm); (case k2 => k_mem); (case k3 => first | decide | omega); (case k4 => first | decide | omega); (case k5 => first | rfl | assumption); (case k6 => with_unfolding_all rfl); (case k7 => intro _; with_unfolding_all rfl); k_whole)
  | (refine' my_lst ?k1 ?k2 ?k3 ?k4 ?k5 ?_ ?k6 ?k7; (case k1 => k_asm); (case k2 => k_mem); (case k3 => first | decide | omega); (case k4 => first | decide | omega); (case k5 => first | rfl | assumption); (case k6 => with_unfolding_all rfl); (case k7 => intro _; with_unfolding_all rfl); k_whole))))

local macro_rules | `(tactic| k_mem) => `(tactic| first | ktr_member | (refine List.mem_cons_of_mem _ ?_; k_mem))
theorem hold_on {P : Prop} (h : Hold P) : P := h
local macro_rules | `(tactic| walk_at "exec While Compare cons nil") => `(tactic| (refine hold_on ?_))

set_option maxRecDepth 100000 in
set_option maxHeartbeats 8000000 in
theorem d_release (w : World) (news : List (Addr × Obj)) (pa : Addr) (as : List Addr) (A : List (List Cell)) (address : Nat) (target : Int) (t1 t2 : Tok) (hp : List Cell) (old base' : Cell) (links : List (Nat × Nat × Int))
    (hS : Store news pa as A) (hp0 : A[0]? = some hp) (had : hp[address]? = some old) (had' : address < 1000) (hC : Chain A old links base') :
    Does w 35 [.ref pa, .int address t1, .int target t2] 1 news (fun r news' => r = .none ∧ Store news' pa as (setC (relA A links target) 0 address base') ∧ Keep as news news') := by
  unfold Does PR
  k_fill
  intro dp un gd cn cs' a ccd cl outer A₀ base h₀ L m s mean mg mb Q E B F X N T hk hd hu hret
  have hf := func_of N
  obtain ⟨np, htop⟩ := hS.top
  obtain ⟨a0, vs0, n0, e0, e0', hm0, hc0⟩ := hS.at hp0
  obtain ⟨v0, hv0, hv0'⟩ := hc0.get had
  refine wpAny_call ?_
  k_dflt ktr_enter
  k_steps
  unfold Hold
  rename Fr _ _ _ _ => Fw
  rename News _ _ _ news => Nw
  refine While_inv2 (n₀ := links.length) (fun n m nw => ∃ A1 c v ls hp1, n = ls.length ∧ Store nw pa as A1 ∧ Chain A1 c ls base' ∧ CellIs nw v c ∧ relA A1 ls target = relA A links target ∧ Keep as news nw ∧
    m (Str.ofString "areas") = some (.ref pa) ∧ m (Str.ofString "heap") = some (.ref a0) ∧ m (Str.ofString "cell") = some v ∧ m (Str.ofString "address") = some (.int address t1) ∧ m (Str.ofString "target") = some (.int target t2) ∧ A1[0]? = some hp1 ∧ hp1.length = hp.length)
    Fw Nw ⟨A, old, v0, links, hp, rfl, hS, hC, hv0', rfl, Keep.refl, by with_unfolding_all rfl, by with_unfolding_all rfl, by with_unfolding_all rfl, by with_unfolding_all rfl, by with_unfolding_all rfl, hp0, rfl⟩ ?_
  clear Fw Nw
  rintro n m₁ nw h₁ tk₁ F₁ N₁ ⟨A1, c, v, ls, hp1, rfl, S1, C1, hv, heq, K1, q1, q2, q3, q4, q5, g1, g2⟩
  replace F₁ := fr_puts _ F₁ (all5 q1 q2 q3 q4 q5)
  obtain ⟨np1, htop1⟩ := S1.top
  have hf1 := func_of N₁
  cases C1 with
  | nil ht =>
    rename_i tt rr
    cases hv with
    | tup hm hi =>
    cases hi with
    | cons _ tk1 hi' =>
    obtain ⟨a0', ws, k, f1, f1', hmb, hcb⟩ := S1.at g1
    obtain rfl : a0 = a0' := by rw [e0] at f1; exact Option.some.inj f1
    have hlw := hcb.length
    have hlen3 : address < hp.length := (List.getElem?_eq_some_iff.mp had).1
    k_steps
    · exact absurd (by assumption) ht
    refine my_set (by k_asm) (by k_asm) hmb (by omega) (by simp only [Int.toNat_natCast]; omega) (by omega) ?_
    intro h3 F3 N3
    simp only [Int.toNat_natCast] at N3
    k_steps
    have S2 : Store _ pa as (setC A1 0 address (.tup (tt :: rr))) := S1.change (n' := k) (f := fun cs => cs.set address (.tup (tt :: rr))) hf1 f1 g1 hmb (hcb.set (.tup hm (.cons _ tk1 hi')) address)
    have eA : A1 = relA A links target := heq
    rw [eA] at S2
    exact hret _ _ _ _ (by k_asm) (by k_asm) ⟨rfl, S2, K1.trans ((Keep.set hf1 hmb).wider (fun x hx => by rw [List.mem_singleton.mp hx]; exact List.mem_of_getElem? f1))⟩
  | cons d1 d2 d3 d4 C2 =>
    cases hv with
    | tup hm hi =>
    cases hi with
    | cons _ tk1 hi' =>
    cases hi' with
    | cons _ tk2 hi' =>
    cases hi' with
    | cons _ tk3 hi' =>
    cases hi' with
    | cons _ tk4 hi' =>
    cases hi'
    rename_i a3 p3 t3 cs3 c3 ls3 ta3
    obtain ⟨b1, ws1, k1, f1, f1', hmb1, hcb1⟩ := S1.at d1
    obtain ⟨u1, hu1, hu1'⟩ := hcb1.get d2
    have hlt5 : a3 < 5 := by
      have := (List.getElem?_eq_some_iff.mp d1).1
      rw [S1.len] at this; exact this
    have hlw := hcb1.length
    have hlp := (List.getElem?_eq_some_iff.mp d2).1
    have inA : ∀ x ∈ [b1], x ∈ as := fun x hx => by rw [List.mem_singleton.mp hx]; exact List.mem_of_getElem? f1
    k_steps
    · refine my_set (by k_asm) (by k_asm) hmb1 (by omega) (by simp only [Int.toNat_natCast]; omega) (by omega) ?_
      intro h3 F3 N3
      simp only [Int.toNat_natCast] at N3
      have h4 : a3 = 4 := by omega
      have S2 := S1.change (n' := k1) (f := fun cs => cs.set p3 (newCell target (a3, p3, t3))) hf1 f1 d1 hmb1 (hcb1.set (v := .int target t2) (by unfold newCell; rw [if_pos h4]; exact .num _ _) p3)
      have Kb := (Keep.set (vs' := ws1.set p3 (.int target t2)) (n' := k1) hf1 hmb1).wider inA
      obtain ⟨hp2, g3, g4⟩ := setC_len (i := a3) (p := p3) (c := newCell target (a3, p3, t3)) g1
      k_steps
      exact ⟨_, _, _, _, ls3.length, rfl, by k_asm, by k_asm, Nat.lt_succ_self _, _, c3, u1, ls3, hp2, rfl, S2, C2.set d4, hu1'.keep Kb, heq, K1.trans Kb, by with_unfolding_all rfl, by with_unfolding_all rfl, by with_unfolding_all rfl, by with_unfolding_all rfl, by with_unfolding_all rfl, g3, g4.trans g2⟩
    · rename News _ _ _ _ => N2
      have hf2 := func_of N2
      refine my_set (by k_asm) (by k_asm) (.tail _ hmb1) (by omega) (by simp only [Int.toNat_natCast]; omega) (by omega) ?_
      intro h3 F3 N3
      simp only [Int.toNat_natCast] at N3
      have h4 : a3 ≠ 4 := by omega
      have S2 := (S1.keep (Keep.cons (S := [])) (fun _ _ h => nomatch h)).change (n' := k1) (f := fun cs => cs.set p3 (newCell target (a3, p3, t3))) hf2 f1 d1 (.tail _ hmb1) ((hcb1.keep (Keep.cons (S := []))).set (by unfold newCell; rw [if_neg h4]; exact .tup (.head _) (.cons _ _ (.cons _ _ .nil))) p3)
      obtain ⟨hp2, g3, g4⟩ := setC_len (i := a3) (p := p3) (c := newCell target (a3, p3, t3)) g1
      k_steps
      exact ⟨_, _, _, _, ls3.length, rfl, by k_asm, by k_asm, Nat.lt_succ_self _, _, c3, u1, ls3, hp2, rfl, S2, C2.set d4, hu1'.keep ((Keep.cons (S := as)).trans ((Keep.set hf2 (.tail _ hmb1)).wider inA)), heq, K1.trans ((Keep.cons (S := as)).trans ((Keep.set hf2 (.tail _ hmb1)).wider inA)), by with_unfolding_all rfl, by with_unfolding_all rfl, by with_unfolding_all rfl, by with_unfolding_all rfl, by with_unfolding_all rfl, g3, g4.trans g2⟩
end Mine
end

section
open PySem PySem.W PyProof.Rows
namespace Mine
/-! # the plain law: no program in sight -/
def getC (A : List (List Cell)) (a p : Nat) : Option Cell := A[a]?.bind fun cs => cs[p]?
theorem getC_of {A : List (List Cell)} {a p : Nat} {cs : List Cell} {c : Cell} (h1 : A[a]? = some cs) (h2 : cs[p]? = some c) : getC A a p = some c := by
  unfold getC; rw [h1]; exact h2
theorem getC_some {A : List (List Cell)} {a p : Nat} {c : Cell} (h : getC A a p = some c) : ∃ cs, A[a]? = some cs ∧ cs[p]? = some c := by
  unfold getC at h
  cases e : A[a]? with
  | none => rw [e] at h; cases h
  | some cs => rw [e] at h; exact ⟨cs, rfl, h⟩
theorem getC_setC (A : List (List Cell)) (i j : Nat) (x : Cell) (a p : Nat) : getC (setC A i j x) a p = if i = a ∧ j = p then (getC A a p).map (fun _ => x) else getC A a p := by
  unfold getC setC
  rw [List.getElem?_modify]
  cases e : A[a]? with
  | none => simp
  | some cs =>
    by_cases h1 : i = a
    · subst h1
      by_cases h2 : j = p
      · subst h2
        simp only [if_true, Option.map_eq_map, Option.map_some, Option.bind_some, and_self, List.getElem?_set_self']
        rfl
      · simp [h2, List.getElem?_set_ne h2]
    · simp [h1]
theorem getC_setC_ne {A : List (List Cell)} {i j : Nat} {x : Cell} {a p : Nat} (h : ¬ (i = a ∧ j = p)) : getC (setC A i j x) a p = getC A a p := by rw [getC_setC, if_neg h]
theorem getC_setC_eq {A : List (List Cell)} {i j : Nat} {x c : Cell} (h : getC A i j = some c) : getC (setC A i j x) i j = some x := by rw [getC_setC, if_pos ⟨rfl, rfl⟩, h]; rfl

def lens (A : List (List Cell)) : List Nat := A.map List.length
theorem lens_setC (A : List (List Cell)) (i j : Nat) (x : Cell) : lens (setC A i j x) = lens A := by
  apply List.ext_getElem?
  intro k
  unfold lens setC
  rw [List.getElem?_map, List.getElem?_map, List.getElem?_modify]
  cases A[k]? with
  | none => simp
  | some cs => by_cases h : i = k <;> simp [h]
theorem getC_isSome {A D : List (List Cell)} (h : lens A = lens D) {a p : Nat} {c : Cell} (hc : getC A a p = some c) : ∃ d, getC D a p = some d := by
  obtain ⟨cs, e1, e2⟩ := getC_some hc
  have q : (lens A)[a]? = (lens D)[a]? := by rw [h]
  unfold lens at q
  rw [List.getElem?_map, List.getElem?_map, e1] at q
  cases e : D[a]? with
  | none => rw [e] at q; cases q
  | some ds =>
    rw [e] at q
    have q' : cs.length = ds.length := Option.some.inj q
    have hp := (List.getElem?_eq_some_iff.mp e2).1
    have hp' : p < ds.length := by omega
    exact ⟨ds[p], getC_of e (List.getElem?_eq_getElem hp')⟩

abbrev Place := Nat × Nat × Int
theorem relA_cons (A : List (List Cell)) (q : Place) (l : List Place) (tg : Int) : relA A (q :: l) tg = relA (setC A q.1 q.2.1 (newCell tg q)) l tg := rfl
theorem lens_relA (l : List Place) (tg : Int) : ∀ A : List (List Cell), lens (relA A l tg) = lens A := by
  induction l with
  | nil => intro A; rfl
  | cons q l ih => intro A; rw [relA_cons, ih, lens_setC]
theorem relA_off (l : List Place) (tg : Int) {a p : Nat} : ∀ A : List (List Cell), (∀ q ∈ l, ¬ (q.1 = a ∧ q.2.1 = p)) → getC (relA A l tg) a p = getC A a p := by
  induction l with
  | nil => intro A _; rfl
  | cons q l ih =>
    intro A h
    rw [relA_cons, ih _ fun r hr => h r (.tail _ hr), getC_setC_ne (h q (.head _))]

def Apart : List Place → Prop
  | [] => True
  | q :: l => (∀ r ∈ l, (r.1, r.2.1) ≠ (q.1, q.2.1)) ∧ Apart l
theorem Chain.apart {A : List (List Cell)} {c b : Cell} {l : List Place} (h : Chain A c l b) : Apart l := by
  induction h with
  | nil _ => exact trivial
  | cons _ _ _ hd _ ih => exact ⟨hd, ih⟩
theorem Chain.inside {A : List (List Cell)} {c b : Cell} {l : List Place} (h : Chain A c l b) : ∀ q ∈ l, ∃ x, getC A q.1 q.2.1 = some x := by
  induction h with
  | nil _ => intro q hq; cases hq
  | cons e1 e2 _ _ _ ih =>
    intro q hq
    rcases List.mem_cons.mp hq with rfl | hq
    · exact ⟨_, getC_of e1 e2⟩
    · exact ih q hq
theorem relA_on (tg : Int) {a p : Nat} {t : Int} : ∀ (l : List Place) (A : List (List Cell)), Apart l → (a, p, t) ∈ l → (∃ x, getC A a p = some x) → getC (relA A l tg) a p = some (newCell tg (a, p, t)) := by
  intro l
  induction l with
  | nil => intro A _ h; cases h
  | cons q l ih =>
    intro A hA h hx
    rw [relA_cons]
    rcases List.mem_cons.mp h with rfl | h
    · rw [relA_off l tg _ fun r hr e => hA.1 r hr (by rw [e.1, e.2])]
      obtain ⟨x, hx⟩ := hx
      exact getC_setC_eq hx
    · refine ih _ hA.2 h ?_
      obtain ⟨x, hx⟩ := hx
      rw [getC_setC, hx]
      by_cases e : q.1 = a ∧ q.2.1 = p
      · exact ⟨_, by rw [if_pos e]; rfl⟩
      · exact ⟨x, by rw [if_neg e]⟩
theorem Chain.rel {c b : Cell} {m : List Place} (tg : Int) : ∀ (l : List Place) (A : List (List Cell)), (∀ q ∈ m, ∀ r ∈ l, (q.1, q.2.1) ≠ (r.1, r.2.1)) → Chain A c m b → Chain (relA A l tg) c m b := by
  intro l
  induction l with
  | nil => intro A _ h; exact h
  | cons r l ih =>
    intro A hd h
    rw [relA_cons]
    exact ih _ (fun q hq s hs => hd q hq s (.tail _ hs)) (h.set fun q hq => hd q hq r (.head _))

def hcell (hs : List (Int × Nat)) (v : Nat) : Cell := .tup [(hs.getD v (0, 0)).1, ((hs.getD v (0, 0)).2 : Int)]

structure Inv (hs : List (Int × Nat)) (ns : List Int) (W : List Nat) (A D : List (List Cell)) (lk : Nat → List Place) : Prop where
  five : A.length = 5
  same : lens A = lens D
  node : ∀ v ∈ W, v < hs.length
  heap : ∀ v, v < hs.length → ∃ c, getC A 0 v = some c
  chain : ∀ v ∈ W, ∃ c, getC A 0 v = some c ∧ Chain A c (lk v) (hcell hs v)
  apart : ∀ v ∈ W, ∀ w ∈ W, ∀ q ∈ lk v, ∀ r ∈ lk w, (q.1, q.2.1) = (r.1, r.2.1) → v = w
  off : ∀ v ∈ W, ∀ q ∈ lk v, ¬ (q.1 = 0 ∧ q.2.1 ∈ W)
  due : ∀ a p c, getC D a p = some c → (∃ v ∈ W, ∃ t, (a, p, t) ∈ lk v ∧ c = newCell (ns.getD v 0) (a, p, t)) ∨
    ((∀ v ∈ W, ∀ t, (a, p, t) ∉ lk v) ∧ ((a = 0 ∧ p ∈ W ∧ c = hcell hs p) ∨ (¬ (a = 0 ∧ p ∈ W) ∧ getC A a p = some c)))

theorem Inv.ends {hs : List (Int × Nat)} {ns : List Int} {A D : List (List Cell)} {lk : Nat → List Place} (h : Inv hs ns [] A D lk) : A = D := by
  have hl : A.length = D.length := by
    have q := congrArg List.length h.same
    simpa [lens] using q
  have key : ∀ a p c, getC D a p = some c → getC A a p = some c := by
    intro a p c hc
    rcases h.due a p c hc with ⟨v, hv, _⟩ | ⟨_, ⟨_, hp, _⟩ | ⟨_, q⟩⟩
    · cases hv
    · cases hp
    · exact q
  apply List.ext_getElem hl
  intro a h1 h2
  have hq : (A[a]).length = (D[a]).length := by
    have q : (lens A)[a]? = (lens D)[a]? := by rw [h.same]
    simpa [lens, List.getElem?_map, List.getElem?_eq_getElem h1, List.getElem?_eq_getElem h2] using q
  apply List.ext_getElem hq
  intro p g1 g2
  have q := key a p D[a][p] (getC_of (List.getElem?_eq_getElem h2) (List.getElem?_eq_getElem g2))
  obtain ⟨cs, e1, e2⟩ := getC_some q
  rw [List.getElem?_eq_getElem h1] at e1
  cases e1
  rw [List.getElem?_eq_getElem g1] at e2
  exact Option.some.inj e2
end Mine
end

section
open PySem PySem.W PyProof.Rows
namespace Mine

theorem Inv.start {hs : List (Int × Nat)} {ns : List Int} {W : List Nat} (hW : ∀ v, v ∈ W ↔ v < hs.length) (ht : ∀ p ∈ hs, p.1 ≠ 7) :
    Inv hs ns W [(List.range hs.length).map (hcell hs), [], [], [], []] [(List.range hs.length).map (hcell hs), [], [], [], []] (fun _ => []) := by
  have key : ∀ v, v < hs.length → getC [(List.range hs.length).map (hcell hs), [], [], [], []] 0 v = some (hcell hs v) := fun v hv => getC_of rfl (by simp [hv])
  refine ⟨rfl, rfl, fun v hv => (hW v).mp hv, fun v hv => ⟨_, key v hv⟩, fun v hv => ⟨_, key v ((hW v).mp hv), ?_⟩, fun v _ w _ q hq => (nomatch hq), fun v _ q hq => (nomatch hq), ?_⟩
  · refine .nil ?_
    have hv' := (hW v).mp hv
    rw [List.getD_eq_getElem?_getD, List.getElem?_eq_getElem hv']
    exact ht _ (List.getElem_mem hv')
  · intro a p c hc
    refine .inr ⟨fun v _ t h => (nomatch h), ?_⟩
    by_cases h : a = 0 ∧ p ∈ W
    · obtain ⟨rfl, hp⟩ := h
      rw [key p ((hW p).mp hp)] at hc
      exact .inl ⟨rfl, hp, (Option.some.inj hc).symm⟩
    · exact .inr ⟨h, hc⟩

theorem Inv.hang {hs : List (Int × Nat)} {ns : List Int} {W : List Nat} {A D : List (List Cell)} {lk : Nat → List Place} (h : Inv hs ns W A D lk) {v a p : Nat} {t : Int} {old c₀ : Cell}
    (hv : v ∈ W) (ho : getC A 0 v = some old) (hc : getC A a p = some c₀) (hn : ∀ w ∈ W, ∀ t', (a, p, t') ∉ lk w) (hW : ¬ (a = 0 ∧ p ∈ W)) (hp : p < 1000) :
    Inv hs ns W (hangA A a p t v old) (setC D a p (newCell (ns.getD v 0) (a, p, t))) (fun w => if w = v then (a, p, t) :: lk v else lk w) := by
  have hav : ¬ (a = 0 ∧ p = v) := fun e => hW ⟨e.1, e.2 ▸ hv⟩
  have g1 : ∀ b q, ¬ (a = b ∧ p = q) → ¬ (0 = b ∧ v = q) → getC (hangA A a p t v old) b q = getC A b q := fun b q h1 h2 => by
    unfold hangA
    rw [getC_setC_ne h2, getC_setC_ne h1]
  have g2 : getC (hangA A a p t v old) 0 v = some (.tup [7, (a : Int), (p : Int), t]) := by
    unfold hangA
    refine getC_setC_eq (c := old) ?_
    rw [getC_setC_ne (fun e => hav ⟨e.1, e.2⟩), ho]
  have g3 : getC (hangA A a p t v old) a p = some old := by
    unfold hangA
    rw [getC_setC_ne (fun e => hav ⟨e.1.symm, e.2.symm⟩)]
    exact getC_setC_eq hc
  have far : ∀ w ∈ W, ∀ q ∈ lk w, (q.1, q.2.1) ≠ (a, p) := fun w hw q hq e => by
    obtain ⟨q1, q2, q3⟩ := q
    simp only [Prod.mk.injEq] at e
    obtain ⟨rfl, rfl⟩ := e
    exact hn w hw q3 hq
  have far0 : ∀ w ∈ W, ∀ q ∈ lk w, (q.1, q.2.1) ≠ (0, v) := fun w hw q hq e => by
    simp only [Prod.mk.injEq] at e
    exact h.off w hw q hq ⟨e.1, e.2 ▸ hv⟩
  have keep : ∀ w ∈ W, ∀ c b, Chain A c (lk w) b → Chain (hangA A a p t v old) c (lk w) b := fun w hw c b hC => (hC.set (far w hw)).set (far0 w hw)
  refine ⟨?_, ?_, h.node, fun w hw => ?_, fun w hw => ?_, ?_, ?_, ?_⟩
  · have q : (lens (hangA A a p t v old)).length = (lens A).length := by unfold hangA; rw [lens_setC, lens_setC]
    simpa [lens, h.five] using q
  · unfold hangA
    rw [lens_setC, lens_setC, lens_setC, h.same]
  · obtain ⟨c, hc⟩ := h.heap w hw
    exact getC_isSome (A := A) (by unfold hangA; rw [lens_setC, lens_setC]) hc
  · by_cases e : w = v
    · subst e
      refine ⟨_, g2, ?_⟩
      rw [if_pos rfl]
      obtain ⟨c, hc', hC⟩ := h.chain w hw
      rw [ho] at hc'
      cases hc'
      obtain ⟨cs, e1, e2⟩ := getC_some g3
      exact .cons e1 e2 hp (far w hw) (keep w hw _ _ hC)
    · obtain ⟨c, hc', hC⟩ := h.chain w hw
      refine ⟨c, ?_, ?_⟩
      · rw [g1 0 w (fun q => hW ⟨q.1, q.2 ▸ hw⟩) (fun q => e q.2.symm), hc']
      · rw [if_neg e]
        exact keep w hw _ _ hC
  · intro w hw x hx q hq r hr e
    by_cases h1 : w = v
    · subst h1
      by_cases h2 : x = w
      · exact h2.symm
      · rw [if_pos rfl] at hq
        rw [if_neg h2] at hr
        rcases List.mem_cons.mp hq with rfl | hq
        · exact absurd e.symm (far x hx r hr)
        · exact h.apart w hw x hx q hq r hr e
    · rw [if_neg h1] at hq
      by_cases h2 : x = v
      · subst h2
        rw [if_pos rfl] at hr
        rcases List.mem_cons.mp hr with rfl | hr
        · exact absurd e (far w hw q hq)
        · exact h.apart w hw x hx q hq r hr e
      · rw [if_neg h2] at hr
        exact h.apart w hw x hx q hq r hr e
  · intro w hw q hq
    by_cases h1 : w = v
    · subst h1
      rw [if_pos rfl] at hq
      rcases List.mem_cons.mp hq with rfl | hq
      · exact hW
      · exact h.off w hw q hq
    · rw [if_neg h1] at hq
      exact h.off w hw q hq
  · intro b q c hc'
    by_cases e : a = b ∧ p = q
    · obtain ⟨rfl, rfl⟩ := e
      refine .inl ⟨v, hv, t, by rw [if_pos rfl]; exact .head _, ?_⟩
      obtain ⟨d, hd⟩ := getC_isSome h.same hc
      rw [getC_setC_eq hd] at hc'
      exact (Option.some.inj hc').symm
    · rw [getC_setC_ne e] at hc'
      rcases h.due b q c hc' with ⟨w, hw, t', hm, hc''⟩ | ⟨hn', hr⟩
      · refine .inl ⟨w, hw, t', ?_, hc''⟩
        by_cases h1 : w = v
        · subst h1; rw [if_pos rfl]; exact .tail _ hm
        · rw [if_neg h1]; exact hm
      · refine .inr ⟨fun w hw t' hm => ?_, ?_⟩
        · by_cases h1 : w = v
          · subst h1
            rw [if_pos rfl] at hm
            rcases List.mem_cons.mp hm with e' | hm
            · simp only [Prod.mk.injEq] at e'
              exact e ⟨e'.1.symm, e'.2.1.symm⟩
            · exact hn' w hw t' hm
          · rw [if_neg h1] at hm
            exact hn' w hw t' hm
        · rcases hr with hr | ⟨hr1, hr2⟩
          · exact .inl hr
          · exact .inr ⟨hr1, by rw [g1 b q e (fun e' => hr1 ⟨e'.1.symm, e'.2 ▸ hv⟩)]; exact hr2⟩

theorem Inv.release {hs : List (Int × Nat)} {ns : List Int} {W W' : List Nat} {A D : List (List Cell)} {lk : Nat → List Place} (h : Inv hs ns W A D lk) {v : Nat} (hv : v ∈ W) (hW : ∀ w, w ∈ W' ↔ w ∈ W ∧ w ≠ v) :
    Inv hs ns W' (setC (relA A (lk v) (ns.getD v 0)) 0 v (hcell hs v)) D lk ∧ getC (setC (relA A (lk v) (ns.getD v 0)) 0 v (hcell hs v)) 0 v = some (hcell hs v) ∧ (∀ w ∈ W', ∀ t, (0, v, t) ∉ lk w) := by
  have sub : ∀ w ∈ W', w ∈ W := fun w hw => ((hW w).mp hw).1
  obtain ⟨c, hc, hC⟩ := h.chain v hv
  have hl : lens (setC (relA A (lk v) (ns.getD v 0)) 0 v (hcell hs v)) = lens A := by rw [lens_setC, lens_relA]
  have g0 : getC (setC (relA A (lk v) (ns.getD v 0)) 0 v (hcell hs v)) 0 v = some (hcell hs v) := by
    refine getC_setC_eq (c := c) ?_
    rw [relA_off _ _ _ fun q hq e => h.off v hv q hq ⟨e.1, e.2 ▸ hv⟩, hc]
  have g1 : ∀ a p, (∀ q ∈ lk v, ¬ (q.1 = a ∧ q.2.1 = p)) → ¬ (0 = a ∧ v = p) → getC (setC (relA A (lk v) (ns.getD v 0)) 0 v (hcell hs v)) a p = getC A a p := fun a p h1 h2 => by
    rw [getC_setC_ne h2, relA_off _ _ _ h1]
  refine ⟨⟨?_, ?_, fun w hw => h.node w (sub w hw), fun w hw => ?_, fun w hw => ?_, fun x hx y hy => h.apart x (sub x hx) y (sub y hy), fun w hw q hq e => h.off w (sub w hw) q hq ⟨e.1, sub _ e.2⟩, ?_⟩, g0, ?_⟩
  · have q : (lens (setC (relA A (lk v) (ns.getD v 0)) 0 v (hcell hs v))).length = (lens A).length := by rw [hl]
    simpa [lens, h.five] using q
  · rw [hl, h.same]
  · obtain ⟨d, hd⟩ := h.heap w hw
    exact getC_isSome hl.symm hd
  · obtain ⟨hw1, hw2⟩ := (hW w).mp hw
    obtain ⟨d, hd, hD⟩ := h.chain w hw1
    refine ⟨d, ?_, ?_⟩
    · rw [g1 0 w (fun q hq e => h.off v hv q hq ⟨e.1, e.2 ▸ hw1⟩) (fun e => hw2 e.2.symm), hd]
    · refine (hD.rel _ _ _ fun q hq r hr e => ?_).set fun q hq e => ?_
      · exact hw2 (h.apart w hw1 v hv q hq r hr e)
      · simp only [Prod.mk.injEq] at e
        exact h.off w hw1 q hq ⟨e.1, e.2 ▸ hv⟩
  · intro a p d hd
    rcases h.due a p d hd with ⟨w, hw, t, hm, e⟩ | ⟨hn, hr⟩
    · by_cases hwv : w = v
      · subst hwv
        have ho := h.off w hw _ hm
        refine .inr ⟨fun x hx t' hm' => ?_, .inr ⟨fun e' => ho ⟨e'.1, sub _ e'.2⟩, ?_⟩⟩
        · exact ((hW x).mp hx).2 (h.apart x (sub x hx) w hw _ hm' _ hm rfl)
        · rw [getC_setC_ne (fun e' : 0 = a ∧ w = p => ho ⟨e'.1.symm, (show p ∈ W from e'.2 ▸ hw)⟩), relA_on _ _ _ hC.apart hm (hC.inside _ hm), e]
      · exact .inl ⟨w, (hW w).mpr ⟨hw, hwv⟩, t, hm, e⟩
    · refine .inr ⟨fun w hw => hn w (sub w hw), ?_⟩
      rcases hr with ⟨rfl, hp, rfl⟩ | ⟨h1, h2⟩
      · by_cases hpv : p = v
        · subst hpv
          exact .inr ⟨fun e => ((hW p).mp e.2).2 rfl, g0⟩
        · exact .inl ⟨rfl, (hW p).mpr ⟨hp, hpv⟩, rfl⟩
      · refine .inr ⟨fun e => h1 ⟨e.1, sub _ e.2⟩, ?_⟩
        rw [g1 a p (fun q hq e => ?_) (fun e => h1 ⟨e.1.symm, e.2 ▸ hv⟩), h2]
        obtain ⟨q1, q2, q3⟩ := q
        obtain ⟨rfl, rfl⟩ := e
        exact hn v hv q3 hq
  · intro w hw t hm
    exact h.off w (sub w hw) _ hm ⟨rfl, hv⟩
end Mine
end

section
open PySem PySem.W PyProof.Rows
namespace Mine
theorem addC_at {A : List (List Cell)} {i : Nat} {x : Cell} {cs : List Cell} {a : Nat} (h : A[a]? = some cs) : (addC A i x)[a]? = some (if i = a then cs ++ [x] else cs) := by
  unfold addC
  rw [List.getElem?_modify, h]
  by_cases e : i = a <;> simp [e]
theorem addC_old {A : List (List Cell)} {i : Nat} {x : Cell} {a p : Nat} {c : Cell} (h : getC A a p = some c) : getC (addC A i x) a p = some c := by
  obtain ⟨cs, e1, e2⟩ := getC_some h
  refine getC_of (addC_at e1) ?_
  by_cases e : i = a
  · rw [if_pos e, List.getElem?_append_left (List.getElem?_eq_some_iff.mp e2).1, e2]
  · rw [if_neg e, e2]
theorem addC_split {A : List (List Cell)} {i : Nat} {x : Cell} {a p : Nat} {c : Cell} (h : getC (addC A i x) a p = some c) : getC A a p = some c ∨ (a = i ∧ c = x ∧ ∃ cs, A[i]? = some cs ∧ p = cs.length) := by
  obtain ⟨ds, e1, e2⟩ := getC_some h
  unfold addC at e1
  rcases modify_get e1 with ⟨rfl, cs, e3, rfl⟩ | ⟨_, e3⟩
  · by_cases hp : p < cs.length
    · rw [List.getElem?_append_left hp] at e2
      exact .inl (getC_of e3 e2)
    · have hlt := (List.getElem?_eq_some_iff.mp e2).1
      simp only [List.length_append, List.length_cons, List.length_nil] at hlt
      have hp' : p = cs.length := by omega
      subst hp'
      rw [List.getElem?_append_right (Nat.le_refl _)] at e2
      simp at e2
      exact .inr ⟨rfl, e2.symm, cs, e3, rfl⟩
  · exact .inl (getC_of e3 e2)
theorem lens_addC (A : List (List Cell)) (i : Nat) (x : Cell) : lens (addC A i x) = (lens A).modify i (· + 1) := by
  apply List.ext_getElem?
  intro k
  unfold lens addC
  rw [List.getElem?_map, List.getElem?_modify, List.getElem?_modify, List.getElem?_map]
  cases A[k]? with
  | none => simp
  | some cs => by_cases h : i = k <;> simp [h]
theorem addC_set {D : List (List Cell)} {i : Nat} {c c' : Cell} {ds : List Cell} (h : D[i]? = some ds) : setC (addC D i c) i ds.length c' = addC D i c' := by
  apply List.ext_getElem?
  intro k
  unfold setC addC
  rw [List.getElem?_modify, List.getElem?_modify, List.getElem?_modify]
  by_cases e : i = k
  · subst e
    rw [h]
    simp
  · simp only [e, if_false]
    cases D[k]? <;> rfl
theorem Chain.add {A : List (List Cell)} {c b : Cell} {l : List Place} {i : Nat} {x : Cell} (h : Chain A c l b) : Chain (addC A i x) c l b := by
  induction h with
  | nil h => exact .nil h
  | cons e1 e2 hp hd _ ih =>
    obtain ⟨cs, g1, g2⟩ := getC_some (addC_old (i := i) (x := x) (getC_of e1 e2))
    exact .cons g1 g2 hp hd ih
theorem Inv.add {hs : List (Int × Nat)} {ns : List Int} {W : List Nat} {A D : List (List Cell)} {lk : Nat → List Place} (h : Inv hs ns W A D lk) (i : Nat) (x : Cell) : Inv hs ns W (addC A i x) (addC D i x) lk := by
  have out : ∀ {cs : List Cell}, A[i]? = some cs → ∀ c, getC A i cs.length ≠ some c := fun {cs} e c q => by
    obtain ⟨ds, e1, e2⟩ := getC_some q
    rw [e] at e1
    cases e1
    exact absurd (List.getElem?_eq_some_iff.mp e2).1 (Nat.lt_irrefl _)
  refine ⟨by unfold addC; simp [h.five], by rw [lens_addC, lens_addC, h.same], h.node, fun v hv => ?_, fun v hv => ?_, h.apart, h.off, ?_⟩
  · obtain ⟨c, hc⟩ := h.heap v hv
    exact ⟨c, addC_old hc⟩
  · obtain ⟨c, hc, hC⟩ := h.chain v hv
    exact ⟨c, addC_old hc, hC.add⟩
  · intro a p c hc
    rcases addC_split hc with hc | ⟨rfl, rfl, ds, e1, rfl⟩
    · rcases h.due a p c hc with hl | ⟨hn, hr⟩
      · exact .inl hl
      · refine .inr ⟨hn, ?_⟩
        rcases hr with hr | ⟨h1, h2⟩
        · exact .inl hr
        · exact .inr ⟨h1, addC_old h2⟩
    · have hq : (lens A)[a]? = (lens D)[a]? := by rw [h.same]
      unfold lens at hq
      rw [List.getElem?_map, List.getElem?_map, e1] at hq
      cases e2 : A[a]? with
      | none => rw [e2] at hq; cases hq
      | some cs =>
        rw [e2] at hq
        have hq' : cs.length = ds.length := Option.some.inj hq
        rw [← hq']
        refine .inr ⟨fun v hv t hm => ?_, .inr ⟨fun e => ?_, ?_⟩⟩
        · obtain ⟨c', _, hC⟩ := h.chain v hv
          obtain ⟨y, hy⟩ := hC.inside _ hm
          exact out e2 y hy
        · obtain ⟨rfl, hm⟩ := e
          obtain ⟨c', hc', _⟩ := h.chain _ hm
          exact out e2 c' hc'
        · exact getC_of (addC_at e2) (by rw [if_pos rfl]; simp)
/-- the new place at an area's end is hung nowhere, and is no waiting node's -/
theorem Inv.fresh {hs : List (Int × Nat)} {ns : List Int} {W : List Nat} {A D : List (List Cell)} {lk : Nat → List Place} (h : Inv hs ns W A D lk) {i : Nat} {cs : List Cell} (e : A[i]? = some cs) :
    (∀ w ∈ W, ∀ t', (i, cs.length, t') ∉ lk w) ∧ ¬ (i = 0 ∧ cs.length ∈ W) := by
  have out : ∀ c, getC A i cs.length ≠ some c := fun c q => by
    obtain ⟨ds, e1, e2⟩ := getC_some q
    rw [e] at e1
    cases e1
    exact absurd (List.getElem?_eq_some_iff.mp e2).1 (Nat.lt_irrefl _)
  refine ⟨fun v hv t hm => ?_, fun e' => ?_⟩
  · obtain ⟨c', _, hC⟩ := h.chain v hv
    obtain ⟨y, hy⟩ := hC.inside _ hm
    exact out y hy
  · obtain ⟨rfl, hm⟩ := e'
    obtain ⟨c', hc', _⟩ := h.chain _ hm
    exact out c' hc'
theorem Inv.areas {hs : List (Int × Nat)} {ns : List Int} {W : List Nat} {A D : List (List Cell)} {lk : Nat → List Place} (h : Inv hs ns W A D lk) {i : Nat} (hi : i < 5) : ∃ cs ds, A[i]? = some cs ∧ D[i]? = some ds ∧ cs.length = ds.length := by
  have h1 : i < A.length := by rw [h.five]; exact hi
  have hq : (lens A)[i]? = (lens D)[i]? := by rw [h.same]
  unfold lens at hq
  rw [List.getElem?_map, List.getElem?_map, List.getElem?_eq_getElem h1] at hq
  cases e2 : D[i]? with
  | none => rw [e2] at hq; cases hq
  | some ds =>
    rw [e2] at hq
    exact ⟨_, ds, List.getElem?_eq_getElem h1, rfl, Option.some.inj hq⟩
end Mine
end

section
open PySem PySem.W PyProof.Rows PySem.Calls
namespace Mine
section
variable {prog : Program} {w : World} {A : Around} {E : Value → Shared → Prop} {s : Shared} {h₀ : Heap} {L a : Addr} {m : Str → Option Value} {news : List (Addr × Obj)} {l : List Value} {n : Nat}
theorem my_newList {M : Model} {vs : List Value} {Q : Value → Shared → Prop} (F : Fr h₀ L s.heap m) (N : News h₀ L s.heap news) (hsz : vs.length ≤ 1000)
    (h : ∀ b h', Fr h₀ L h' m → News h₀ L h' ((b, listOf vs.toArray 0) :: news) → (∀ p ∈ news, p.1 ≠ b) → Q (.ref b) { s with heap := h' }) : wpAny M A (newList vs) Q E s :=
  newList_K F N (fun b h' F' N' hl => h b h' F' N' fun p hp => Nat.ne_of_lt (hl p hp)) (by rw [sizeLine_eq]; omega)
theorem my_copy {Q : Value → Shared → Prop} (F : Fr h₀ L s.heap m) (N : News h₀ L s.heap news) (hm : (a, listOf l.toArray n) ∈ news) (hsz : l.length ≤ 1000)
    (h : ∀ b c h', Fr h₀ L h' m → News h₀ L h' ((b, listOf l.toArray c) :: news) → (∀ p ∈ news, p.1 ≠ b) → Q (.ref b) { s with heap := h' }) : wpAny (model prog w) A (call (.type "list") [.ref a]) Q E s :=
  list_copyK F N (PySem.IsL.isList (n := n) (N _ hm).1) (fun b c h' F' N' hl => h b c h' F' N' fun p hp => Nat.ne_of_lt (hl p hp)) (by rw [sizeLine_eq, List.size_toArray]; omega)
theorem my_popAt {i : Int} {u : Tok} {y : Value} {Q : Value → Shared → Prop} (F : Fr h₀ L s.heap m) (N : News h₀ L s.heap news) (hm : (a, listOf l.toArray n) ∈ news) (h0 : 0 ≤ i) (hi : l[i.toNat]? = some y) (hsz : l.length ≤ 1000)
    (h : ∀ h', Fr h₀ L h' m → News h₀ L h' (setAt news a (listOf (l.eraseIdx i.toNat).toArray (n + 1))) → Q y { s with heap := h' }) : wpAny (model prog w) A (call (.builtin "list.pop") [.ref a, .int i u]) Q E s := by
  have z := N _ hm
  have hlt := (List.getElem?_eq_some_iff.mp hi).1
  refine call_meets PySem.F.slot_list_pop ⟨_, z.1, rfl⟩ PySem.F.entry_list_pop (PySem.F.args_list_pop_2 _ _) (PySem.MeetsSeq.list_pop_at a _ n i u i.toNat y (fitsIndex_of h0 (by omega)) (by rw [List.size_toArray]; exact seqIndex_of h0 (by omega)) (by simpa using hi) (by rw [sizeLine_eq, List.size_toArray]; omega))
    ⟨z.1, h _ (F.change (Heap.SameBut.update ..) z.2.1 z.2.2) (news_setAt N hm (Heap.SameBut.update ..) ?_)⟩
  have q := PySem.IsL.update z.1 (fun xs => xs.eraseIdxIfInBounds i.toNat)
  have e : l.toArray.eraseIdxIfInBounds i.toNat = (l.eraseIdx i.toNat).toArray := by
    apply Array.toList_inj.mp
    simp
  rw [e, if_neg] at q
  · exact q
  · rw [List.size_toArray, List.size_toArray, List.length_eraseIdx, if_pos hlt]
    simp
    omega
theorem my_in {vs : List Value} {ns : List Int} {k : Int} {t : Tok} {Q : Value → Shared → Prop} (N : News h₀ L s.heap news) (hm : (a, listOf vs.toArray n) ∈ news) (hi : IntsAre vs ns)
    (h : Q (.bool (ns.any (· == k))) s) : wpAny (model prog w) A (compareOp .In (.int k t) (.ref a)) Q E s :=
  in_list_ints (PySem.IsL.isList (n := n) (N _ hm).1) hi h
end

section
variable {prog : Program} {w : World} {A : Around} {E : Value → Shared → Prop} {s : Shared} {env : Env} {h₀ : Heap} {x : Str} {body : List Stmt} {Q : Flow → Shared → Prop}
theorem range_inv {r : Addr} {b₀ : Int} {t₀ u₀ v₀ : Tok} {n : Nat} {m₀ : Str → Option Value} {news : List (Addr × Obj)} (J : Nat → (Str → Option Value) → List (Addr × Obj) → Prop)
    (hh : A.handled = none) (hr : IsRange s.heap r 0 b₀ 1 t₀ u₀ v₀) (hb : b₀ = (n : Int)) (hn : n ≤ 1000) (F : Fr h₀ env.locals s.heap m₀) (N : News h₀ env.locals s.heap news) (hJ : J 0 m₀ news)
    (turn : ∀ i I it t m nw h tk, i < n → it.cls = .type "range_iterator" → J i m nw → Fr h₀ env.locals h (fun y => if y = x then some (.int (i : Int) t) else m y) → News h₀ env.locals h ((I, it) :: nw) →
      wpAny (model prog w) A (execs body env) (UnrPost h₀ env.locals { s with heap := h, toks := tk } I it (J (i + 1)) Q) E { s with heap := h, toks := tk })
    (done : ∀ m nw h tk, J n m nw → Fr h₀ env.locals h m → News h₀ env.locals h nw → Q .next { s with heap := h, toks := tk }) :
    wpAny (model prog w) A (pyIter (.ref r)) (fun it s₂ => LoopAtV prog w A h₀ env x body Q E it s₂) E s := by
  subst hb
  refine iter_rangeUnr (n := n) hh hr (small_one (by decide) (by decide) (by omega) (by omega)) (by rw [rangeSize_nat]; omega) F N fun I _ => ?_
  have all : ∀ k i m nw, i + k = n → J i m nw → RangeRest prog w A E h₀ env x body Q s I 0 n k i m nw := by
    intro k
    induction k with
    | zero =>
      intro i m nw e hj
      obtain rfl : i = n := by omega
      exact RangeRest.zero fun h tk F N => done m nw h tk hj F N
    | succ k ih =>
      intro i m nw e hj
      refine RangeRest.succ fun t h tk F N => ?_
      rw [Int.zero_add] at F
      refine wpAny_mono (turn i I _ t m nw h tk (by omega) rfl hj F N) (fun f s₂ q => ?_) fun _ _ y => y
      cases f with
      | ret v => exact q
      | brk => exact q
      | next =>
        obtain ⟨h', tk', m', nw', e', F', N', off, hj'⟩ := q
        exact ⟨h', tk', m', nw', e', F', N', off, ih _ _ _ (by omega) hj'⟩
      | cont =>
        obtain ⟨h', tk', m', nw', e', F', N', off, hj'⟩ := q
        exact ⟨h', tk', m', nw', e', F', N', off, ih _ _ _ (by omega) hj'⟩
  exact all n 0 m₀ news (by omega) hJ
end

/-- what stands of a ledger behind the iterator -/
def drop (I : Addr) (news : List (Addr × Obj)) : List (Addr × Obj) := news.filter fun p => !(p.1 == I)
theorem drop_keep {I : Addr} {it : Obj} {news : List (Addr × Obj)} (hf : Func news) (hI : (I, it) ∈ news) (hc : it.cls = .type "range_iterator") : Keep [I] news (drop I news) :=
  ⟨fun p hp hs => List.mem_filter.mpr ⟨hp, by simpa using fun e : p.1 = I => hs (List.mem_singleton.mpr e)⟩, fun p hp hc' => List.mem_filter.mpr ⟨hp, by
    have : p.1 ≠ I := fun e => by
      have q := hf I p.2 it (e ▸ hp) hI
      rw [q, hc] at hc'
      exact absurd (Value.type.inj hc') (by decide)
    simpa using this⟩⟩
theorem drop_end {h₀ h' : Heap} {L I : Addr} {it : Obj} {rest : (Str → Option Value) → List (Addr × Obj) → Prop} {s₁ : Shared} {tk : Nat} {m' : Str → Option Value} {news : List (Addr × Obj)} (F : Fr h₀ L h' m') (N : News h₀ L h' news) (hI : (I, it) ∈ news) (r : rest m' (drop I news)) :
    UnrEnd h₀ L s₁ I it rest { s₁ with heap := h', toks := tk } :=
  UnrEnd.intro F N (drop I news) (fun p hp => by
    rcases List.mem_cons.mp hp with rfl | hp
    · exact hI
    · exact (List.mem_filter.mp hp).1) (fun p hp => by simpa using (List.mem_filter.mp hp).2) r
theorem list_off_it {news : List (Addr × Obj)} {I d : Addr} {it : Obj} {vs : List Value} {n : Nat} (hf : Func news) (hI : (I, it) ∈ news) (hc : it.cls = .type "range_iterator") (hm : (d, listOf vs.toArray n) ∈ news) : d ∉ [I] := fun q => by
  have e := List.mem_singleton.mp q
  subst e
  have q := hf d _ _ hm hI
  rw [← q] at hc
  exact absurd (Value.type.inj hc) (by decide)

theorem all4 {m : Str → Option Value} {x1 x2 x3 x4 : Str} {v1 v2 v3 v4 : Value} (h1 : m x1 = some v1) (h2 : m x2 = some v2) (h3 : m x3 = some v3) (h4 : m x4 = some v4) : ∀ p ∈ [(x1, v1), (x2, v2), (x3, v3), (x4, v4)], m p.1 = some p.2 := by
  intro p hp
  simp only [List.mem_cons, List.not_mem_nil, or_false] at hp
  rcases hp with rfl | rfl | rfl | rfl <;> assumption
theorem all6 {m : Str → Option Value} {x1 x2 x3 x4 x5 x6 : Str} {v1 v2 v3 v4 v5 v6 : Value} (h1 : m x1 = some v1) (h2 : m x2 = some v2) (h3 : m x3 = some v3) (h4 : m x4 = some v4) (h5 : m x5 = some v5) (h6 : m x6 = some v6) :
    ∀ p ∈ [(x1, v1), (x2, v2), (x3, v3), (x4, v4), (x5, v5), (x6, v6)], m p.1 = some p.2 := by
  intro p hp
  simp only [List.mem_cons, List.not_mem_nil, or_false] at hp
  rcases hp with rfl | rfl | rfl | rfl | rfl | rfl <;> assumption
theorem fr_other {m : Str → Option Value} {x y : Str} {v : Option Value} {w : Value} (h : m y = some w) (hne : (y == x) = false) : (fun z => if z = x then v else m z) y = some w := by
  have : y ≠ x := fun e => by subst e; simp at hne
  simp [this, h]

/-! ## equality of cells -/
def datOf : Cell → Dat
  | .num i => .int i
  | .tup l => .tuple (l.map Dat.int)
theorem ints_dat {news : List (Addr × Obj)} {vs : List Value} {ns : List Int} (h : IntsAre vs ns) : DatAll news vs (ns.map Dat.int) := by
  induction h with
  | nil => exact .nil
  | cons n t _ ih => exact .cons (.int n t) ih
theorem CellIs.dat {news : List (Addr × Obj)} {v : Value} {c : Cell} (h : CellIs news v c) : DatIn news v (datOf c) := by
  cases h with
  | num i t => exact .int i t
  | tup hm hi => exact .tuple hm (ints_dat hi)
theorem CellsAre.dat {news : List (Addr × Obj)} {vs : List Value} {cs : List Cell} (h : CellsAre news vs cs) : DatAll news vs (cs.map datOf) := by
  induction h with
  | nil => exact .nil
  | cons a _ ih => exact .cons a.dat ih
theorem datOf_ok (c : Cell) (k : Nat) : kqdOk (k + 1) (datOf c) = true := by
  cases c with
  | num i => rfl
  | tup l =>
    simp only [datOf, kqdOk, List.all_eq_true]
    intro d hd
    obtain ⟨i, _, rfl⟩ := List.mem_map.mp hd
    cases k <;> rfl

theorem all_dat {news : List (Addr × Obj)} : ∀ {as : List Addr} {A : List (List Cell)}, as.length = A.length → (∀ (i : Nat) (a : Addr) (cs : List Cell), as[i]? = some a → A[i]? = some cs → ∃ vs n, (a, listOf vs.toArray n) ∈ news ∧ CellsAre news vs cs) →
    DatAll news (as.map Value.ref) (A.map fun cs => Dat.list (cs.map datOf))
  | [], [], _, _ => .nil
  | a :: as, cs :: A, hl, h => by
    obtain ⟨vs, n, hm, hc⟩ := h 0 a cs rfl rfl
    exact .cons (.list hm hc.dat) (all_dat (by simpa using hl) fun i b ds e1 e2 => h (i + 1) b ds (by simpa using e1) (by simpa using e2))
  | [], _ :: _, hl, _ => by simp at hl
  | _ :: _, [], hl, _ => by simp at hl
section
variable {prog : Program} {w : World} {A : Around} {E : Value → Shared → Prop} {s : Shared} {h₀ : Heap} {L : Addr} {news : List (Addr × Obj)}
theorem my_eq {pa da : Addr} {as ds : List Addr} {C : List (List Cell)} {Q : Value → Shared → Prop} (N : News h₀ L s.heap news) (h1 : Store news pa as C) (h2 : Store news da ds C) (hu : A.units + 64 < cLine) (h : Q (.bool true) s) :
    wpAny (model prog w) A (compareOp .Eq (.ref pa) (.ref da)) Q E s := by
  obtain ⟨n1, t1⟩ := h1.top
  obtain ⟨n2, t2⟩ := h2.top
  have ok : ∀ d ∈ C.map (fun cs => Dat.list (cs.map datOf)), kqdOk 8 d = true := by
    intro d hd
    obtain ⟨cs, _, rfl⟩ := List.mem_map.mp hd
    simp only [kqdOk, List.all_eq_true]
    intro e he
    obtain ⟨c, _, rfl⟩ := List.mem_map.mp he
    exact datOf_ok c 6
  refine kqd_eq N t1 rfl rfl (all_dat (h1.five.trans h1.len.symm) h1.area) (fun _ h => h) t2 rfl rfl (all_dat (h2.five.trans h2.len.symm) h2.area) (fun _ h => h) ok ok hu ?_
  simpa using h
theorem my_ne {v v' : Value} {c : Cell} {Q : Value → Shared → Prop} (N : News h₀ L s.heap news) (h1 : CellIs news v c) (h2 : CellIs news v' c) (hu : A.units + 64 < cLine) (h : Q (.bool false) s) :
    wpAny (model prog w) A (compareOp .NotEq v v') Q E s := by
  have ok := datOf_ok c 7
  obtain ⟨as, ra⟩ := kqd_in N 8 h1.dat ok
  obtain ⟨bs, rb⟩ := kqd_in N 8 h2.dat ok
  have la := kqd_lay 8 _ ok
  have sh : SeqAt.shaped (kqdP (datOf c)) = true := by unfold SeqAt.shaped; rw [la.1, Bool.true_and]; exact decide_eq_true (Nat.le_trans la.2 (by decide))
  have e : PyData.eqv (kqdP (datOf c)) (kqdP (datOf c)) = true := (kqd_eqv 8 (datOf c) (datOf c) 8 ok ok).mpr rfl
  exact ne_dataH ra rb sh sh hu (by rw [e]; exact h)
end
end Mine
end

section
open PySem PySem.W PyProof.Rows PySem.Calls
namespace Mine
def pcell (p : Int × Nat) : Cell := .tup [p.1, (p.2 : Int)]
theorem hcells (hs : List (Int × Nat)) : (List.range hs.length).map (hcell hs) = hs.map pcell := by
  apply List.ext_getElem
  · simp
  · intro i h1 h2
    have hi : i < hs.length := by simpa using h2
    simp [hcell, pcell, List.getElem?_eq_getElem hi]
theorem hcell_at {hs : List (Int × Nat)} {v : Nat} (h : v < hs.length) : hcell hs v = pcell hs[v] := by
  simp [hcell, pcell, List.getElem?_eq_getElem h]

def okp (c : Nat) (p : Int × Nat) : Prop := (p.1 = 0 ∨ p.1 = 2 ∨ p.1 = 3 ∨ p.1 = 4 ∨ p.1 = 5) ∧ p.2 < c

structure Core (news : List (Addr × Obj)) (u sc hd an : Addr) (hs : List (Int × Nat)) (ns : List Int) : Prop where
  urn : Urn news u sc
  held : ∃ vs n, (hd, listOf vs.toArray n) ∈ news ∧ CellsAre news vs (hs.map pcell)
  anew : ∃ vs n, (an, listOf vs.toArray n) ∈ news ∧ IntsAre vs ns
  nodup : [u, sc, hd, an].Nodup
theorem Core.keep {S : List Addr} {news news' : List (Addr × Obj)} {u sc hd an : Addr} {hs : List (Int × Nat)} {ns : List Int} (k : Keep S news news') (h : Core news u sc hd an hs ns) (h1 : u ∉ S) (h2 : sc ∉ S) (h3 : hd ∉ S) (h4 : an ∉ S) : Core news' u sc hd an hs ns := by
  obtain ⟨a, ⟨vs, n, b1, b2⟩, ⟨ws, n', c1, c2⟩, d⟩ := h
  exact ⟨a.keep k h1 h2, ⟨vs, n, k.rest _ b1 h3, b2.keep k⟩, ⟨ws, n', k.rest _ c1 h4, c2⟩, d⟩
theorem Core.pick {news news' : List (Addr × Obj)} {u sc hd an : Addr} {hs : List (Int × Nat)} {ns : List Int} (h : Core news u sc hd an hs ns) (hU : Urn news' u sc) (k : Keep [u] news news') : Core news' u sc hd an hs ns := by
  obtain ⟨a, ⟨vs, n, b1, b2⟩, ⟨ws, n', c1, c2⟩, d⟩ := h
  have d' := d
  simp only [List.nodup_cons, List.mem_cons, List.not_mem_nil, or_false, not_or] at d'
  exact ⟨hU, ⟨vs, n, k.rest _ b1 (fun q => d'.1.2.1 (List.mem_singleton.mp q).symm), b2.keep k⟩, ⟨ws, n', k.rest _ c1 (fun q => d'.1.2.2 (List.mem_singleton.mp q).symm), c2⟩, d⟩
theorem Core.off {news : List (Addr × Obj)} {u sc hd an I : Addr} {it : Obj} {hs : List (Int × Nat)} {ns : List Int} (h : Core news u sc hd an hs ns) (hf : Func news) (hI : (I, it) ∈ news) (hc : it.cls = .type "range_iterator") : Core (drop I news) u sc hd an hs ns := by
  have k := drop_keep hf hI hc
  obtain ⟨⟨⟨x, p, tx, tp, n, a1, a2⟩, ⟨vs', ns', n', a3, a4⟩, a5⟩, ⟨vs, n1, b1, b2⟩, ⟨ws, n2, c1, c2⟩, d⟩ := h
  exact ⟨⟨⟨x, p, tx, tp, n, k.rest _ a1 (list_off_it hf hI hc a1), a2⟩, ⟨vs', ns', n', k.rest _ a3 (list_off_it hf hI hc a3), a4⟩, a5⟩, ⟨vs, n1, k.rest _ b1 (list_off_it hf hI hc b1), b2.keep k⟩, ⟨ws, n2, k.rest _ c1 (list_off_it hf hI hc c1), c2⟩, d⟩
theorem Core.list {news : List (Addr × Obj)} {u sc hd an : Addr} {hs : List (Int × Nat)} {ns : List Int} (h : Core news u sc hd an hs ns) : ∀ x ∈ [u, sc, hd, an], ∃ o, (x, o) ∈ news := by
  obtain ⟨⟨⟨x, p, tx, tp, n, a1, a2⟩, ⟨vs', ns', n', a3, a4⟩, a5⟩, ⟨vs, n1, b1, b2⟩, ⟨ws, n2, c1, c2⟩, d⟩ := h
  intro y hy
  simp only [List.mem_cons, List.not_mem_nil, or_false] at hy
  rcases hy with rfl | rfl | rfl | rfl
  · exact ⟨_, a1⟩
  · exact ⟨_, a3⟩
  · exact ⟨_, b1⟩
  · exact ⟨_, c1⟩
theorem urn_start {h₀ h : Heap} {L u sc : Addr} {news : List (Addr × Obj)} {ws : List Value} {ns : List Int} {tx tp : Tok} {n n' : Nat} (hN0 : News h₀ L h ((u, listOf [Value.int 0 tx, .ref sc, .int 0 tp].toArray n) :: (sc, listOf ws.toArray n') :: news)) (hi : IntsAre ws ns) (hl : ws.length ≤ 60) (hne : u ≠ sc) :
    Urn ((u, listOf [Value.int 0 tx, .ref sc, .int 0 tp].toArray n) :: (sc, listOf ws.toArray n') :: news) u sc :=
  ⟨⟨0, 0, tx, tp, n, .head _, Int.le_refl _, Int.le_refl _, by decide⟩, ⟨ws, ns, n', .tail _ (.head _), hi, hl⟩, hne⟩
theorem core_start {h₀ h : Heap} {L u sc hd an : Addr} {news : List (Addr × Obj)} {n n' : Nat} (hN0 : News h₀ L h ((an, listOf [].toArray n) :: (hd, listOf [].toArray n') :: news)) (hU : Urn news u sc) (h1 : ∀ p ∈ news, p.1 ≠ hd) (h2 : ∀ p ∈ (hd, listOf [].toArray n') :: news, p.1 ≠ an) :
    Core ((an, listOf [].toArray n) :: (hd, listOf [].toArray n') :: news) u sc hd an [] [] := by
  have hne := hU.ne
  obtain ⟨x, p, tx, tp, n1, a1, _⟩ := hU.urn
  obtain ⟨vs, ns, n2, a2, _⟩ := hU.src
  refine ⟨hU.keep (S := []) (Keep.more fun q hq => .tail _ (.tail _ hq)) (fun h => nomatch h) (fun h => nomatch h), ⟨[], n', .tail _ (.head _), .nil⟩, ⟨[], n, .head _, .nil⟩, ?_⟩
  have e1 := h1 _ a1
  have e2 := h1 _ a2
  have e3 := h2 _ (.tail _ a1)
  have e4 := h2 _ (.tail _ a2)
  have e5 := h2 _ (.head _)
  simp_all
theorem fr_turn4 {h₀ h : Heap} {L : Addr} {m : Str → Option Value} {x x1 x2 x3 x4 : Str} {v : Option Value} {v1 v2 v3 v4 : Value} (F : Fr h₀ L h (fun y => if y = x then v else m y)) (q1 : m x1 = some v1) (q2 : m x2 = some v2) (q3 : m x3 = some v3) (q4 : m x4 = some v4)
    (n1 : (x1 == x) = false) (n2 : (x2 == x) = false) (n3 : (x3 == x) = false) (n4 : (x4 == x) = false) : Fr h₀ L h (kstB (fun y => if y = x then v else m y) [(x1, v1), (x2, v2), (x3, v3), (x4, v4)]) :=
  fr_puts _ F (all4 (m := fun y => if y = x then v else m y) (fr_other q1 n1) (fr_other q2 n2) (fr_other q3 n3) (fr_other q4 n4))
theorem fr_turn6 {h₀ h : Heap} {L : Addr} {m : Str → Option Value} {x x1 x2 x3 x4 x5 x6 : Str} {v : Option Value} {v1 v2 v3 v4 v5 v6 : Value} (F : Fr h₀ L h (fun y => if y = x then v else m y)) (q1 : m x1 = some v1) (q2 : m x2 = some v2) (q3 : m x3 = some v3) (q4 : m x4 = some v4) (q5 : m x5 = some v5) (q6 : m x6 = some v6)
    (n1 : (x1 == x) = false) (n2 : (x2 == x) = false) (n3 : (x3 == x) = false) (n4 : (x4 == x) = false) (n5 : (x5 == x) = false) (n6 : (x6 == x) = false) : Fr h₀ L h (kstB (fun y => if y = x then v else m y) [(x1, v1), (x2, v2), (x3, v3), (x4, v4), (x5, v5), (x6, v6)]) :=
  fr_puts _ F (all6 (m := fun y => if y = x then v else m y) (fr_other q1 n1) (fr_other q2 n2) (fr_other q3 n3) (fr_other q4 n4) (fr_other q5 n5) (fr_other q6 n6))
end Mine
end

section
open PySem PySem.W PyProof.Rows PySem.Calls
namespace Mine
theorem Core.up1 {h₀ g : Heap} {L : Addr} {q : Addr × Obj} {news : List (Addr × Obj)} {u sc hd an : Addr} {hs : List (Int × Nat)} {ns : List Int} (h : Core news u sc hd an hs ns) (hN0 : News h₀ L g (q :: news)) : Core (q :: news) u sc hd an hs ns :=
  h.keep (S := []) Keep.cons (fun h => nomatch h) (fun h => nomatch h) (fun h => nomatch h) (fun h => nomatch h)
theorem Core.up2 {h₀ g : Heap} {L : Addr} {q r : Addr × Obj} {news : List (Addr × Obj)} {u sc hd an : Addr} {hs : List (Int × Nat)} {ns : List Int} (h : Core news u sc hd an hs ns) (hN0 : News h₀ L g (q :: r :: news)) : Core (q :: r :: news) u sc hd an hs ns :=
  h.keep (S := []) (Keep.cons.trans Keep.cons) (fun h => nomatch h) (fun h => nomatch h) (fun h => nomatch h) (fun h => nomatch h)
theorem it_off {news : List (Addr × Obj)} {I d : Addr} {it : Obj} {vs : List Value} {n : Nat} (hf : Func news) (hI : (I, it) ∈ news) (hc : it.cls = .type "range_iterator") (hm : (d, listOf vs.toArray n) ∈ news) : I ∉ [d] := fun q =>
  list_off_it hf hI hc hm (List.mem_singleton.mpr (List.mem_singleton.mp q).symm)
theorem Core.it {news news' : List (Addr × Obj)} {u sc hd an I : Addr} {it : Obj} {hs : List (Int × Nat)} {ns : List Int} (h : Core news u sc hd an hs ns) (hf : Func news) (hI : (I, it) ∈ news) (hc : it.cls = .type "range_iterator") (k : Keep [u] news news') : (I, it) ∈ news' := by
  obtain ⟨x, p, tx, tp, n, a1, _⟩ := h.urn.urn
  exact k.rest _ hI (it_off hf hI hc a1)
theorem Core.apart {news : List (Addr × Obj)} {u sc hd an b : Addr} {hs : List (Int × Nat)} {ns : List Int} (h : Core news u sc hd an hs ns) (hb : ∀ p ∈ news, p.1 ≠ b) : b ∉ [u, sc, hd, an] := fun q => by
  obtain ⟨o, ho⟩ := h.list b q
  exact hb _ ho rfl
theorem menu1 {f : Int} (h0 : 0 ≤ f) (h1 : f < 5) : ∃ tv tt, [Value.int 0 187, Value.int 2 191, Value.int 3 193, Value.int 4 195, Value.int 5 197][f.toNat]? = some (.int tv tt) ∧ (tv = 0 ∨ tv = 2 ∨ tv = 3 ∨ tv = 4 ∨ tv = 5) := by
  have : f = 0 ∨ f = 1 ∨ f = 2 ∨ f = 3 ∨ f = 4 := by omega
  rcases this with rfl | rfl | rfl | rfl | rfl <;> exact ⟨_, _, rfl, by omega⟩
theorem menu2 {f : Int} (h0 : 0 ≤ f) (h1 : f < 5) : ∃ tv tt, [Value.int 0 187, Value.int 2 191, Value.int 3 193, Value.int 4 195, Value.int 1 189][f.toNat]? = some (.int tv tt) ∧ (tv = 0 ∨ tv = 2 ∨ tv = 3 ∨ tv = 4 ∨ tv = 1) := by
  have : f = 0 ∨ f = 1 ∨ f = 2 ∨ f = 3 ∨ f = 4 := by omega
  rcases this with rfl | rfl | rfl | rfl | rfl <;> exact ⟨_, _, rfl, by omega⟩
theorem ints_append {vs : List Value} {ns : List Int} {i : Int} {t : Tok} (h : IntsAre vs ns) : IntsAre (vs ++ [Value.int i t]) (ns ++ [i]) := by
  induction h with
  | nil => exact .cons i t .nil
  | cons n t' _ ih => exact .cons n t' ih
theorem core_held {h₀ h : Heap} {L t : Addr} {news : List (Addr × Obj)} {u sc hd an : Addr} {hs : List (Int × Nat)} {ns : List Int} {tv : Int} {v : Nat} {k1 k2 : Tok} {vs : List Value} {n n' : Nat}
    (N : News h₀ L h ((t, tupOf [Value.int tv k1, .int (v : Int) k2].toArray) :: news)) (C : Core news u sc hd an hs ns) (hm : (hd, listOf vs.toArray n) ∈ news) (hc : CellsAre news vs (hs.map pcell)) :
    Core (setAt ((t, tupOf [Value.int tv k1, .int (v : Int) k2].toArray) :: news) hd (listOf (vs ++ [Value.ref t]).toArray n')) u sc hd an (hs ++ [(tv, v)]) ns ∧
    Keep [hd] ((t, tupOf [Value.int tv k1, .int (v : Int) k2].toArray) :: news) (setAt ((t, tupOf [Value.int tv k1, .int (v : Int) k2].toArray) :: news) hd (listOf (vs ++ [Value.ref t]).toArray n')) := by
  have hf := func_of N
  have k : Keep [hd] _ (setAt ((t, tupOf [Value.int tv k1, .int (v : Int) k2].toArray) :: news) hd (listOf (vs ++ [Value.ref t]).toArray n')) := Keep.set hf (.tail _ hm)
  have C1 := C.up1 N
  have d' := C.nodup
  simp only [List.nodup_cons, List.mem_cons, List.not_mem_nil, or_false, not_or] at d'
  refine ⟨⟨C1.urn.keep k (fun q => d'.1.2.1 (List.mem_singleton.mp q)) (fun q => d'.2.1.1 (List.mem_singleton.mp q)), ⟨_, n', mem_setAt_self (.tail _ hm), ?_⟩, ?_, C.nodup⟩, k⟩
  · rw [List.map_append]
    exact ((hc.keep (Keep.cons (S := [hd]))).append (.tup (.head _) (.cons _ _ (.cons _ _ .nil)))).keep k
  · obtain ⟨ws, m, c1, c2⟩ := C1.anew
    exact ⟨ws, m, k.rest _ c1 (fun q => d'.2.2.1 (List.mem_singleton.mp q).symm), c2⟩
theorem core_anew {h₀ h : Heap} {L : Addr} {news : List (Addr × Obj)} {u sc hd an : Addr} {hs : List (Int × Nat)} {ns : List Int} {i : Int} {t : Tok} {vs : List Value} {n n' : Nat}
    (N : News h₀ L h news) (C : Core news u sc hd an hs ns) (hm : (an, listOf vs.toArray n) ∈ news) (hc : IntsAre vs ns) :
    Core (setAt news an (listOf (vs ++ [Value.int i t]).toArray n')) u sc hd an hs (ns ++ [i]) ∧ Keep [an] news (setAt news an (listOf (vs ++ [Value.int i t]).toArray n')) := by
  have hf := func_of N
  have k : Keep [an] _ (setAt news an (listOf (vs ++ [Value.int i t]).toArray n')) := Keep.set hf hm
  have d' := C.nodup
  simp only [List.nodup_cons, List.mem_cons, List.not_mem_nil, or_false, not_or] at d'
  refine ⟨⟨C.urn.keep k (fun q => d'.1.2.2 (List.mem_singleton.mp q)) (fun q => d'.2.1.2 (List.mem_singleton.mp q)), ?_, ⟨_, n', mem_setAt_self hm, ints_append hc⟩, C.nodup⟩, k⟩
  obtain ⟨ws, m, c1, c2⟩ := C.held
  exact ⟨ws, m, k.rest _ c1 (fun q => d'.2.2.1 (List.mem_singleton.mp q)), c2.keep k⟩
end Mine
end

section
open PySem PySem.W PyProof.Rows PySem.Calls
namespace Mine
theorem Store.entry {news : List (Addr × Obj)} {pa : Addr} {as : List Addr} {A : List (List Cell)} (h : Store news pa as A) : ∀ x ∈ pa :: as, ∃ (vs : List Value) (n : Nat), (x, listOf vs.toArray n) ∈ news := by
  intro x hx
  rcases List.mem_cons.mp hx with rfl | hx
  · obtain ⟨n, hn⟩ := h.top
    exact ⟨_, n, hn⟩
  · obtain ⟨i, hi, e⟩ := List.getElem_of_mem hx
    have hA : i < A.length := by rw [h.len, ← h.five]; exact hi
    obtain ⟨vs, n, hm, _⟩ := h.area i x A[i] (by rw [List.getElem?_eq_getElem hi, e]) (List.getElem?_eq_getElem hA)
    exact ⟨vs, n, hm⟩
theorem Core.entry {news : List (Addr × Obj)} {u sc hd an : Addr} {hs : List (Int × Nat)} {ns : List Int} (h : Core news u sc hd an hs ns) : ∀ x ∈ [u, sc, hd, an], ∃ (vs : List Value) (n : Nat), (x, listOf vs.toArray n) ∈ news := by
  obtain ⟨⟨⟨x, p, tx, tp, n, a1, a2⟩, ⟨vs', ns', n', a3, a4⟩, a5⟩, ⟨vs, n1, b1, b2⟩, ⟨ws, n2, c1, c2⟩, d⟩ := h
  intro y hy
  simp only [List.mem_cons, List.not_mem_nil, or_false] at hy
  rcases hy with rfl | rfl | rfl | rfl
  · exact ⟨_, _, a1⟩
  · exact ⟨_, _, a3⟩
  · exact ⟨_, _, b1⟩
  · exact ⟨_, _, c1⟩
theorem Core.keepL {S : List Addr} {news news' : List (Addr × Obj)} {u sc hd an : Addr} {hs : List (Int × Nat)} {ns : List Int} (k : Keep S news news') (h : Core news u sc hd an hs ns) (hS : ∀ x ∈ [u, sc, hd, an], x ∉ S) : Core news' u sc hd an hs ns :=
  h.keep k (hS _ (.head _)) (hS _ (.tail _ (.head _))) (hS _ (.tail _ (.tail _ (.head _)))) (hS _ (.tail _ (.tail _ (.tail _ (.head _)))))

structure Law (news : List (Addr × Obj)) (u sc hd an pa da : Addr) (ps ds : List Addr) (hs : List (Int × Nat)) (ns : List Int) (A D : List (List Cell)) : Prop where
  core : Core news u sc hd an hs ns
  parts : Store news pa ps A
  due : Store news da ds D
  a1 : ∀ x ∈ [u, sc, hd, an], x ∉ pa :: ps
  a2 : ∀ x ∈ [u, sc, hd, an], x ∉ da :: ds
  a3 : ∀ x ∈ pa :: ps, x ∉ da :: ds
section
variable {news news' : List (Addr × Obj)} {u sc hd an pa da : Addr} {ps ds : List Addr} {hs : List (Int × Nat)} {ns : List Int} {A A' D D' : List (List Cell)}
theorem Law.keep {S : List Addr} (k : Keep S news news') (h : Law news u sc hd an pa da ps ds hs ns A D) (h1 : ∀ x ∈ [u, sc, hd, an], x ∉ S) (h2 : ∀ x ∈ pa :: ps, x ∉ S) (h3 : ∀ x ∈ da :: ds, x ∉ S) : Law news' u sc hd an pa da ps ds hs ns A D :=
  ⟨h.core.keepL k h1, h.parts.keep k h2, h.due.keep k h3, h.a1, h.a2, h.a3⟩
theorem Law.up1 {h₀ g : Heap} {L : Addr} {q : Addr × Obj} (h : Law news u sc hd an pa da ps ds hs ns A D) (hN0 : News h₀ L g (q :: news)) : Law (q :: news) u sc hd an pa da ps ds hs ns A D :=
  h.keep (S := []) Keep.cons (fun _ _ h => nomatch h) (fun _ _ h => nomatch h) (fun _ _ h => nomatch h)
theorem Law.pick (h : Law news u sc hd an pa da ps ds hs ns A D) (hU : Urn news' u sc) (k : Keep [u] news news') : Law news' u sc hd an pa da ps ds hs ns A D := by
  have h1 := h.a1 u (.head _)
  have h2 := h.a2 u (.head _)
  exact ⟨h.core.pick hU k, h.parts.keep k (fun x hx q => h1 (List.mem_singleton.mp q ▸ hx)), h.due.keep k (fun x hx q => h2 (List.mem_singleton.mp q ▸ hx)), h.a1, h.a2, h.a3⟩
theorem Law.setParts (h : Law news u sc hd an pa da ps ds hs ns A D) (hS : Store news' pa ps A') (k : Keep ps news news') : Law news' u sc hd an pa da ps ds hs ns A' D :=
  ⟨h.core.keepL k (fun x hx q => h.a1 x hx (.tail _ q)), hS, h.due.keep k (fun x hx q => h.a3 x (.tail _ q) hx), h.a1, h.a2, h.a3⟩
theorem Law.setDue (h : Law news u sc hd an pa da ps ds hs ns A D) (hS : Store news' da ds D') (k : Keep ds news news') : Law news' u sc hd an pa da ps ds hs ns A D' :=
  ⟨h.core.keepL k (fun x hx q => h.a2 x hx (.tail _ q)), h.parts.keep k (fun x hx q => h.a3 x hx (.tail _ q)), hS, h.a1, h.a2, h.a3⟩
theorem Law.off {I : Addr} {it : Obj} (h : Law news u sc hd an pa da ps ds hs ns A D) (hf : Func news) (hI : (I, it) ∈ news) (hc : it.cls = .type "range_iterator") : Law (drop I news) u sc hd an pa da ps ds hs ns A D := by
  refine h.keep (drop_keep hf hI hc) (fun x hx => ?_) (fun x hx => ?_) (fun x hx => ?_)
  · obtain ⟨vs, n, hm⟩ := h.core.entry x hx
    exact list_off_it hf hI hc hm
  · obtain ⟨vs, n, hm⟩ := h.parts.entry x hx
    exact list_off_it hf hI hc hm
  · obtain ⟨vs, n, hm⟩ := h.due.entry x hx
    exact list_off_it hf hI hc hm
/-- the iterator stands while lists of these are changed -/
theorem Law.itU {I : Addr} {it : Obj} (h : Law news u sc hd an pa da ps ds hs ns A D) (hf : Func news) (hI : (I, it) ∈ news) (hc : it.cls = .type "range_iterator") (k : Keep [u] news news') : (I, it) ∈ news' := h.core.it hf hI hc k
theorem Store.it {I : Addr} {it : Obj} {as : List Addr} (h : Store news pa as A) (hf : Func news) (hI : (I, it) ∈ news) (hc : it.cls = .type "range_iterator") (k : Keep as news news') : (I, it) ∈ news' :=
  k.rest _ hI fun q => by
    obtain ⟨vs, n, hm⟩ := h.entry I (.tail _ q)
    exact list_off_it hf hI hc hm (.head _)
/-- a list made anew is none of these -/
theorem Law.apart {b : Addr} (h : Law news u sc hd an pa da ps ds hs ns A D) (hb : ∀ p ∈ news, p.1 ≠ b) : b ∉ [u, sc, hd, an] ∧ b ∉ pa :: ps ∧ b ∉ da :: ds :=
  ⟨h.core.apart hb, fun q => by obtain ⟨vs, n, hm⟩ := h.parts.entry b q; exact hb _ hm rfl, fun q => by obtain ⟨vs, n, hm⟩ := h.due.entry b q; exact hb _ hm rfl⟩
end

theorem store_start {news : List (Addr × Obj)} {pa p0 p1 p2 p3 p4 : Addr} {n n0 n1 n2 n3 n4 : Nat} {vs : List Value} {cs : List Cell}
    (ht : (pa, listOf [Value.ref p0, .ref p1, .ref p2, .ref p3, .ref p4].toArray n) ∈ news) (h0 : (p0, listOf vs.toArray n0) ∈ news) (h1 : (p1, listOf [].toArray n1) ∈ news) (h2 : (p2, listOf [].toArray n2) ∈ news) (h3 : (p3, listOf [].toArray n3) ∈ news) (h4 : (p4, listOf [].toArray n4) ∈ news)
    (hc : CellsAre news vs cs) (hn : [pa, p0, p1, p2, p3, p4].Nodup) : Store news pa [p0, p1, p2, p3, p4] [cs, [], [], [], []] := by
  refine ⟨⟨n, ht⟩, rfl, rfl, ?_, hn⟩
  intro i a ds e1 e2
  match i with
  | 0 => cases e1; cases e2; exact ⟨vs, n0, h0, hc⟩
  | 1 => cases e1; cases e2; exact ⟨[], n1, h1, .nil⟩
  | 2 => cases e1; cases e2; exact ⟨[], n2, h2, .nil⟩
  | 3 => cases e1; cases e2; exact ⟨[], n3, h3, .nil⟩
  | 4 => cases e1; cases e2; exact ⟨[], n4, h4, .nil⟩
  | i + 5 => simp at e1
theorem nod {news : List (Addr × Obj)} {b : Addr} {l : List Addr} (h : ∀ p ∈ news, p.1 ≠ b) (hl : ∀ x ∈ l, ∃ o, (x, o) ∈ news) (hn : l.Nodup) : (b :: l).Nodup ∧ ∀ o, ∀ x ∈ b :: l, ∃ o', (x, o') ∈ (b, o) :: news :=
  ⟨List.nodup_cons.mpr ⟨fun q => by obtain ⟨o, ho⟩ := hl b q; exact h _ ho rfl, hn⟩, fun o x hx => by
    rcases List.mem_cons.mp hx with rfl | hx
    · exact ⟨o, .head _⟩
    · obtain ⟨o', ho⟩ := hl x hx
      exact ⟨o', .tail _ ho⟩⟩
theorem law_start {h₀ h : Heap} {L : Addr} {nw : List (Addr × Obj)} {u sc hd an pa p0 p1 p2 p3 p4 da d0 d1 d2 d3 d4 : Addr} {c c' : Nat} {hvs : List Value} {hs : List (Int × Nat)} {ns : List Int}
    (hN0 : News h₀ L h ((da, listOf [Value.ref d0, .ref d1, .ref d2, .ref d3, .ref d4].toArray 0) :: (d4, listOf [].toArray 0) :: (d3, listOf [].toArray 0) :: (d2, listOf [].toArray 0) :: (d1, listOf [].toArray 0) :: (d0, listOf hvs.toArray c') :: (pa, listOf [Value.ref p0, .ref p1, .ref p2, .ref p3, .ref p4].toArray 0) :: (p4, listOf [].toArray 0) :: (p3, listOf [].toArray 0) :: (p2, listOf [].toArray 0) :: (p1, listOf [].toArray 0) :: (p0, listOf hvs.toArray c) :: nw)) (C : Core nw u sc hd an hs ns) (hc : CellsAre nw hvs (hs.map pcell))
    (hp0 : ∀ p ∈ nw, p.1 ≠ p0)
    (hp1 : ∀ p ∈ (p0, listOf hvs.toArray c) :: nw, p.1 ≠ p1)
    (hp2 : ∀ p ∈ (p1, listOf [].toArray 0) :: (p0, listOf hvs.toArray c) :: nw, p.1 ≠ p2)
    (hp3 : ∀ p ∈ (p2, listOf [].toArray 0) :: (p1, listOf [].toArray 0) :: (p0, listOf hvs.toArray c) :: nw, p.1 ≠ p3)
    (hp4 : ∀ p ∈ (p3, listOf [].toArray 0) :: (p2, listOf [].toArray 0) :: (p1, listOf [].toArray 0) :: (p0, listOf hvs.toArray c) :: nw, p.1 ≠ p4)
    (hpa : ∀ p ∈ (p4, listOf [].toArray 0) :: (p3, listOf [].toArray 0) :: (p2, listOf [].toArray 0) :: (p1, listOf [].toArray 0) :: (p0, listOf hvs.toArray c) :: nw, p.1 ≠ pa)
    (hd0 : ∀ p ∈ (pa, listOf [Value.ref p0, .ref p1, .ref p2, .ref p3, .ref p4].toArray 0) :: (p4, listOf [].toArray 0) :: (p3, listOf [].toArray 0) :: (p2, listOf [].toArray 0) :: (p1, listOf [].toArray 0) :: (p0, listOf hvs.toArray c) :: nw, p.1 ≠ d0)
    (hd1 : ∀ p ∈ (d0, listOf hvs.toArray c') :: (pa, listOf [Value.ref p0, .ref p1, .ref p2, .ref p3, .ref p4].toArray 0) :: (p4, listOf [].toArray 0) :: (p3, listOf [].toArray 0) :: (p2, listOf [].toArray 0) :: (p1, listOf [].toArray 0) :: (p0, listOf hvs.toArray c) :: nw, p.1 ≠ d1)
    (hd2 : ∀ p ∈ (d1, listOf [].toArray 0) :: (d0, listOf hvs.toArray c') :: (pa, listOf [Value.ref p0, .ref p1, .ref p2, .ref p3, .ref p4].toArray 0) :: (p4, listOf [].toArray 0) :: (p3, listOf [].toArray 0) :: (p2, listOf [].toArray 0) :: (p1, listOf [].toArray 0) :: (p0, listOf hvs.toArray c) :: nw, p.1 ≠ d2)
    (hd3 : ∀ p ∈ (d2, listOf [].toArray 0) :: (d1, listOf [].toArray 0) :: (d0, listOf hvs.toArray c') :: (pa, listOf [Value.ref p0, .ref p1, .ref p2, .ref p3, .ref p4].toArray 0) :: (p4, listOf [].toArray 0) :: (p3, listOf [].toArray 0) :: (p2, listOf [].toArray 0) :: (p1, listOf [].toArray 0) :: (p0, listOf hvs.toArray c) :: nw, p.1 ≠ d3)
    (hd4 : ∀ p ∈ (d3, listOf [].toArray 0) :: (d2, listOf [].toArray 0) :: (d1, listOf [].toArray 0) :: (d0, listOf hvs.toArray c') :: (pa, listOf [Value.ref p0, .ref p1, .ref p2, .ref p3, .ref p4].toArray 0) :: (p4, listOf [].toArray 0) :: (p3, listOf [].toArray 0) :: (p2, listOf [].toArray 0) :: (p1, listOf [].toArray 0) :: (p0, listOf hvs.toArray c) :: nw, p.1 ≠ d4)
    (hda : ∀ p ∈ (d4, listOf [].toArray 0) :: (d3, listOf [].toArray 0) :: (d2, listOf [].toArray 0) :: (d1, listOf [].toArray 0) :: (d0, listOf hvs.toArray c') :: (pa, listOf [Value.ref p0, .ref p1, .ref p2, .ref p3, .ref p4].toArray 0) :: (p4, listOf [].toArray 0) :: (p3, listOf [].toArray 0) :: (p2, listOf [].toArray 0) :: (p1, listOf [].toArray 0) :: (p0, listOf hvs.toArray c) :: nw, p.1 ≠ da) :
    Law ((da, listOf [Value.ref d0, .ref d1, .ref d2, .ref d3, .ref d4].toArray 0) :: (d4, listOf [].toArray 0) :: (d3, listOf [].toArray 0) :: (d2, listOf [].toArray 0) :: (d1, listOf [].toArray 0) :: (d0, listOf hvs.toArray c') :: (pa, listOf [Value.ref p0, .ref p1, .ref p2, .ref p3, .ref p4].toArray 0) :: (p4, listOf [].toArray 0) :: (p3, listOf [].toArray 0) :: (p2, listOf [].toArray 0) :: (p1, listOf [].toArray 0) :: (p0, listOf hvs.toArray c) :: nw) u sc hd an pa da [p0, p1, p2, p3, p4] [d0, d1, d2, d3, d4] hs ns [hs.map pcell, [], [], [], []] [hs.map pcell, [], [], [], []] := by
  have k : ∀ S, Keep S nw ((da, listOf [Value.ref d0, .ref d1, .ref d2, .ref d3, .ref d4].toArray 0) :: (d4, listOf [].toArray 0) :: (d3, listOf [].toArray 0) :: (d2, listOf [].toArray 0) :: (d1, listOf [].toArray 0) :: (d0, listOf hvs.toArray c') :: (pa, listOf [Value.ref p0, .ref p1, .ref p2, .ref p3, .ref p4].toArray 0) :: (p4, listOf [].toArray 0) :: (p3, listOf [].toArray 0) :: (p2, listOf [].toArray 0) :: (p1, listOf [].toArray 0) :: (p0, listOf hvs.toArray c) :: nw) := fun S => Keep.more fun p hp => by simp only [List.mem_cons, hp, or_true]
  have n0 := nod hp0 (l := []) (fun x hx => nomatch hx) .nil
  have n1 := nod hp1 (n0.2 _) n0.1
  have n2 := nod hp2 (n1.2 _) n1.1
  have n3 := nod hp3 (n2.2 _) n2.1
  have n4 := nod hp4 (n3.2 _) n3.1
  have n5 := nod hpa (n4.2 _) n4.1
  have n6 := nod hd0 (n5.2 _) n5.1
  have n7 := nod hd1 (n6.2 _) n6.1
  have n8 := nod hd2 (n7.2 _) n7.1
  have n9 := nod hd3 (n8.2 _) n8.1
  have n10 := nod hd4 (n9.2 _) n9.1
  have n11 := nod hda (n10.2 _) n10.1
  have off : ∀ x ∈ [u, sc, hd, an], x ∉ [da, d4, d3, d2, d1, d0, pa, p4, p3, p2, p1, p0] := by
    intro x hx q
    obtain ⟨o, ho⟩ := C.list x hx
    simp only [List.mem_cons, List.not_mem_nil, or_false] at q
    rcases q with rfl | rfl | rfl | rfl | rfl | rfl | rfl | rfl | rfl | rfl | rfl | rfl
    · exact hda (_, o) (by simp only [List.mem_cons, ho, or_true]) rfl
    · exact hd4 (_, o) (by simp only [List.mem_cons, ho, or_true]) rfl
    · exact hd3 (_, o) (by simp only [List.mem_cons, ho, or_true]) rfl
    · exact hd2 (_, o) (by simp only [List.mem_cons, ho, or_true]) rfl
    · exact hd1 (_, o) (by simp only [List.mem_cons, ho, or_true]) rfl
    · exact hd0 (_, o) (by simp only [List.mem_cons, ho, or_true]) rfl
    · exact hpa (_, o) (by simp only [List.mem_cons, ho, or_true]) rfl
    · exact hp4 (_, o) (by simp only [List.mem_cons, ho, or_true]) rfl
    · exact hp3 (_, o) (by simp only [List.mem_cons, ho, or_true]) rfl
    · exact hp2 (_, o) (by simp only [List.mem_cons, ho, or_true]) rfl
    · exact hp1 (_, o) (by simp only [List.mem_cons, ho, or_true]) rfl
    · exact hp0 (_, o) (by simp only [List.mem_cons, ho, or_true]) rfl
  have hd := (List.nodup_append (l₁ := [da, d4, d3, d2, d1, d0]) (l₂ := [pa, p4, p3, p2, p1, p0])).mp n11.1
  have np : [pa, p0, p1, p2, p3, p4].Nodup := (List.Perm.cons pa (List.reverse_perm [p0, p1, p2, p3, p4])).nodup hd.2.1
  have nd : [da, d0, d1, d2, d3, d4].Nodup := (List.Perm.cons da (List.reverse_perm [d0, d1, d2, d3, d4])).nodup hd.1
  refine ⟨C.keepL (k []) (fun _ _ h => nomatch h), store_start (n := 0) (n0 := c) (n1 := 0) (n2 := 0) (n3 := 0) (n4 := 0) (vs := hvs) (by simp) (by simp) (by simp) (by simp) (by simp) (by simp) (hc.keep (k [])) np,
    store_start (n := 0) (n0 := c') (n1 := 0) (n2 := 0) (n3 := 0) (n4 := 0) (vs := hvs) (by simp) (by simp) (by simp) (by simp) (by simp) (by simp) (hc.keep (k [])) nd, ?_, ?_, ?_⟩
  · intro x hx q
    refine off x hx ?_
    simp only [List.mem_cons, List.not_mem_nil, or_false] at q ⊢
    rcases q with h | h | h | h | h | h <;> simp [h]
  · intro x hx q
    refine off x hx ?_
    simp only [List.mem_cons, List.not_mem_nil, or_false] at q ⊢
    rcases q with h | h | h | h | h | h <;> simp [h]
  · intro x hx q
    refine hd.2.2 x ?_ x ?_ rfl
    · simp only [List.mem_cons, List.not_mem_nil, or_false] at q ⊢
      rcases q with h | h | h | h | h | h <;> simp [h]
    · simp only [List.mem_cons, List.not_mem_nil, or_false] at hx ⊢
      rcases hx with h | h | h | h | h | h <;> simp [h]
end Mine
end

section
open PySem PySem.W PyProof.Rows PySem.Calls
namespace Mine
section
variable {h₀ h : Heap} {L : Addr} {news : List (Addr × Obj)} {u sc hd an pa da a : Addr} {ps ds : List Addr} {hs : List (Int × Nat)} {ns : List Int} {A D : List (List Cell)} {part n n' : Nat} {cs : List Cell} {vs : List Value} {x : Value} {c : Cell}
theorem law_add (N : News h₀ L h news) (h : Law news u sc hd an pa da ps ds hs ns A D) (ea : A[part]? = some cs) (e1 : ps[part]? = some a) (hm : (a, listOf vs.toArray n) ∈ news) (hc : CellsAre news vs cs) (hx : CellIs news x c) :
    Law (setAt news a (listOf (vs ++ [x]).toArray n')) u sc hd an pa da ps ds hs ns (addC A part c) D ∧ Keep ps news (setAt news a (listOf (vs ++ [x]).toArray n')) := by
  have hf := func_of N
  have k : Keep ps news (setAt news a (listOf (vs ++ [x]).toArray n')) := (Keep.set hf hm).wider fun y hy => by rw [List.mem_singleton.mp hy]; exact List.mem_of_getElem? e1
  exact ⟨h.setParts (h.parts.change (f := fun cs => cs ++ [c]) hf e1 ea hm (hc.append hx)) k, k⟩
theorem law_addD (N : News h₀ L h news) (h : Law news u sc hd an pa da ps ds hs ns A D) (ea : D[part]? = some cs) (e1 : ds[part]? = some a) (hm : (a, listOf vs.toArray n) ∈ news) (hc : CellsAre news vs cs) (hx : CellIs news x c) :
    Law (setAt news a (listOf (vs ++ [x]).toArray n')) u sc hd an pa da ps ds hs ns A (addC D part c) ∧ Keep ds news (setAt news a (listOf (vs ++ [x]).toArray n')) := by
  have hf := func_of N
  have k : Keep ds news (setAt news a (listOf (vs ++ [x]).toArray n')) := (Keep.set hf hm).wider fun y hy => by rw [List.mem_singleton.mp hy]; exact List.mem_of_getElem? e1
  exact ⟨h.setDue (h.due.change (f := fun cs => cs ++ [c]) hf e1 ea hm (hc.append hx)) k, k⟩
theorem law_setD {p : Nat} (N : News h₀ L h news) (h : Law news u sc hd an pa da ps ds hs ns A D) (ea : D[part]? = some cs) (e1 : ds[part]? = some a) (hm : (a, listOf vs.toArray n) ∈ news) (hc : CellsAre news vs cs) (hx : CellIs news x c) :
    Law (setAt news a (listOf (vs.set p x).toArray n')) u sc hd an pa da ps ds hs ns A (setC D part p c) ∧ Keep ds news (setAt news a (listOf (vs.set p x).toArray n')) := by
  have hf := func_of N
  have k : Keep ds news (setAt news a (listOf (vs.set p x).toArray n')) := (Keep.set hf hm).wider fun y hy => by rw [List.mem_singleton.mp hy]; exact List.mem_of_getElem? e1
  exact ⟨h.setDue (h.due.change (f := fun cs => cs.set p c) hf e1 ea hm (hc.set hx p)) k, k⟩
end
theorem lens_mem {A : List (List Cell)} {a : Nat} {cs : List Cell} (h : A[a]? = some cs) : cs.length ∈ lens A := List.mem_map.mpr ⟨cs, List.mem_of_getElem? h, rfl⟩
theorem lens_add {A : List (List Cell)} {i b : Nat} {c : Cell} (h : ∀ x ∈ lens A, x ≤ b) : ∀ x ∈ lens (addC A i c), x ≤ b + 1 := by
  intro x hx
  obtain ⟨cs, hcs, rfl⟩ := List.mem_map.mp hx
  obtain ⟨j, hj⟩ := List.mem_iff_getElem?.mp hcs
  unfold addC at hj
  rcases modify_get hj with ⟨_, y, e, rfl⟩ | ⟨_, e⟩
  · have := h _ (lens_mem e)
    simpa using this
  · have := h _ (lens_mem e)
    omega
theorem lens_hang {A : List (List Cell)} {a p v : Nat} {t : Int} {old : Cell} : lens (hangA A a p t v old) = lens A := by unfold hangA; rw [lens_setC, lens_setC]
theorem in_menu {tv : Int} : ([0, 2, 3] : List Int).any (· == tv) = decide (tv = 0 ∨ tv = 2 ∨ tv = 3) := by
  by_cases h : tv = 0 ∨ tv = 2 ∨ tv = 3
  · rw [decide_eq_true h]
    rcases h with rfl | rfl | rfl <;> rfl
  · rw [decide_eq_false h]
    simp only [List.any_cons, List.any_nil, Bool.or_false, Bool.or_eq_false_iff, beq_eq_false_iff_ne, ne_eq]
    omega
section
variable {prog : Program} {w : World} {A : Around} {E : Value → Shared → Prop} {s : Shared} {h₀ : Heap} {L a : Addr} {news : List (Addr × Obj)}
theorem my_inTup {vs : List Value} {ns : List Int} {k : Int} {t : Tok} {Q : Value → Shared → Prop} (N : News h₀ L s.heap news) (hm : (a, tupOf vs.toArray) ∈ news) (hi : IntsAre vs ns)
    (h : Q (.bool (ns.any (· == k))) s) : wpAny (model prog w) A (compareOp .In (.int k t) (.ref a)) Q E s :=
  in_tuple_ints (items := vs.toArray) ⟨_, (N _ hm).1, rfl, 0, rfl⟩ hi h
end
theorem ints_get {vs : List Value} {ns : List Int} {v : Nat} (h : IntsAre vs ns) (hv : v < ns.length) : ∃ t, vs[v]? = some (.int (ns.getD v 0) t) := by
  have := h.get v (ns.getD v 0) (by rw [List.getD_eq_getElem?_getD, List.getElem?_eq_getElem hv]; rfl)
  exact this
/-- the first state of the places -/
theorem inv_start {hs : List (Int × Nat)} {ns : List Int} {k : Nat} (l1 : hs.length = k) (l3 : ∀ p ∈ hs, okp k p) :
    Inv hs ns (List.range k) [hs.map pcell, [], [], [], []] [hs.map pcell, [], [], [], []] (fun _ => []) ∧ ∀ x ∈ lens [hs.map pcell, [], [], [], []], x ≤ k + 0 := by
  have h := Inv.start (hs := hs) (ns := ns) (W := List.range k) (fun v => by rw [l1]; simp) (fun p hp e => by
    have := (l3 p hp).1
    omega)
  rw [hcells] at h
  refine ⟨h, fun x hx => ?_⟩
  simp only [lens, List.map_cons, List.map_nil, List.length_map, List.length_nil, List.mem_cons, List.not_mem_nil, or_false] at hx
  omega
/-- a place laid and hung -/
theorem Inv.laid {hs : List (Int × Nat)} {ns : List Int} {W : List Nat} {A D : List (List Cell)} {lk : Nat → List Place} (h : Inv hs ns W A D lk) {part v : Nat} {cs dcs : List Cell} (ea : A[part]? = some cs) (ed : D[part]? = some dcs) (hv : v ∈ W) (hp : cs.length < 1000) (c : Cell) (t : Int) :
    ∃ hp old lk', (addC A part c)[0]? = some hp ∧ hp[v]? = some old ∧ Inv hs ns W (hangA (addC A part c) part cs.length t v old) (addC D part (newCell (ns.getD v 0) (part, cs.length, t))) lk' := by
  have h1 := h.add part c
  obtain ⟨old, ho, _⟩ := h1.chain v hv
  obtain ⟨hp', e1, e2⟩ := getC_some ho
  obtain ⟨f1, f2⟩ := h.fresh ea
  have hc : getC (addC A part c) part cs.length = some c := getC_of (addC_at ea) (by rw [if_pos rfl]; simp)
  have h2 := h1.hang hv ho hc f1 f2 hp (t := t)
  have hl : cs.length = dcs.length := by
    obtain ⟨cs', ds', g1, g2, g3⟩ := h.areas (i := part) (by have := (List.getElem?_eq_some_iff.mp ea).1; rw [h.five] at this; exact this)
    rw [ea] at g1
    rw [ed] at g2
    cases g1
    cases g2
    exact g3
  have q : setC (addC D part c) part cs.length (newCell (ns.getD v 0) (part, cs.length, t)) = addC D part (newCell (ns.getD v 0) (part, cs.length, t)) := by
    rw [hl]
    exact addC_set ed
  rw [q] at h2
  exact ⟨hp', old, _, e1, e2, h2⟩
theorem mem_up {h₀ h : Heap} {L : Addr} {q p : Addr × Obj} {news : List (Addr × Obj)} (hN0 : News h₀ L h (q :: news)) (hp : p ∈ news) : p ∈ q :: news := .tail _ hp
end Mine
end

section
open PySem PySem.W PyProof.Rows PySem.Calls
namespace Mine
theorem ints_erase {vs : List Value} {ns : List Int} (h : IntsAre vs ns) : ∀ i : Nat, IntsAre (vs.eraseIdx i) (ns.eraseIdx i) := by
  induction h with
  | nil => intro i; exact .nil
  | cons n t r ih =>
    intro i
    cases i with
    | zero => exact r
    | succ i => exact .cons n t (ih i)
def casts (W : List Nat) : List Int := W.map fun (v : Nat) => (v : Int)
theorem casts_erase (W : List Nat) : ∀ i : Nat, (casts W).eraseIdx i = casts (W.eraseIdx i) := by
  induction W with
  | nil => intro i; rfl
  | cons a W ih =>
    intro i
    cases i with
    | zero => rfl
    | succ i => exact congrArg (List.cons (a : Int)) (ih i)
theorem any_casts {W : List Nat} {x : Nat} : (casts W).any (· == (x : Int)) = decide (x ∈ W) := by
  induction W with
  | nil => rfl
  | cons a W ih =>
    show (((a : Int) == (x : Int)) || (casts W).any (· == (x : Int))) = _
    rw [ih]
    by_cases h : a = x
    · subst h; simp
    · have h' : ¬ ((a : Int) = (x : Int)) := by omega
      have h'' : ¬ x = a := fun e => h e.symm
      simp [h', h'']
theorem erase_mem {W : List Nat} {v : Nat} : W.Nodup → ∀ i, W[i]? = some v → ∀ w, w ∈ W.eraseIdx i ↔ w ∈ W ∧ w ≠ v := by
  induction W with
  | nil => intro _ i h; simp at h
  | cons a W ih =>
    intro hn i h w
    obtain ⟨h1, h2⟩ := List.nodup_cons.mp hn
    cases i with
    | zero =>
      simp at h
      subst h
      show w ∈ W ↔ _
      constructor
      · exact fun hw => ⟨.tail _ hw, fun e => h1 (e ▸ hw)⟩
      · rintro ⟨hw, hne⟩
        rcases List.mem_cons.mp hw with e | hw
        · exact absurd e hne
        · exact hw
    | succ i =>
      simp at h
      show w ∈ a :: W.eraseIdx i ↔ _
      rw [List.mem_cons, List.mem_cons, ih h2 i h w]
      constructor
      · rintro (e | ⟨hw, hne⟩)
        · subst e
          exact ⟨.inl rfl, fun e => h1 (e ▸ List.mem_of_getElem? h)⟩
        · exact ⟨.inr hw, hne⟩
      · rintro ⟨e | hw, hne⟩
        · exact .inl e
        · exact .inr ⟨hw, hne⟩
theorem erase_nodup {W : List Nat} (h : W.Nodup) (i : Nat) : (W.eraseIdx i).Nodup := List.Nodup.sublist (List.eraseIdx_sublist W i) h
theorem casts_range (k : Nat) : rangeKs 0 k = casts (List.range k) := by
  unfold rangeKs casts
  simp
section
variable {h₀ h : Heap} {L : Addr} {news : List (Addr × Obj)} {u sc hd an pa da wt : Addr} {ps ds : List Addr} {hs : List (Int × Nat)} {ns : List Int} {A D : List (List Cell)} {n n' : Nat} {vs vs' : List Value}
/-- the list of those that wait is another one -/
def Alone (wt u sc hd an pa da : Addr) (ps ds : List Addr) : Prop := wt ∉ [u, sc, hd, an] ∧ wt ∉ pa :: ps ∧ wt ∉ da :: ds
theorem law_wait (N : News h₀ L h news) (h : Law news u sc hd an pa da ps ds hs ns A D) (hm : (wt, listOf vs.toArray n) ∈ news) (hw : Alone wt u sc hd an pa da ps ds) :
    Law (setAt news wt (listOf vs'.toArray n')) u sc hd an pa da ps ds hs ns A D := by
  have hf := func_of N
  have k : Keep [wt] news (setAt news wt (listOf vs'.toArray n')) := Keep.set hf hm
  exact h.keep k (fun x hx q => hw.1 (List.mem_singleton.mp q ▸ hx)) (fun x hx q => hw.2.1 (List.mem_singleton.mp q ▸ hx)) (fun x hx q => hw.2.2 (List.mem_singleton.mp q ▸ hx))
theorem Alone.offU (hw : Alone wt u sc hd an pa da ps ds) : wt ∉ [u] := fun q => hw.1 (List.mem_singleton.mp q ▸ .head _)
theorem Alone.offP (hw : Alone wt u sc hd an pa da ps ds) : wt ∉ ps := fun q => hw.2.1 (.tail _ q)
theorem Alone.offD (hw : Alone wt u sc hd an pa da ps ds) : wt ∉ ds := fun q => hw.2.2 (.tail _ q)
end
theorem hcell_of {hs : List (Int × Nat)} {v vl : Nat} {tg : Int} (h : hs[v]? = some (tg, vl)) : hcell hs v = .tup [tg, (vl : Int)] := by
  simp [hcell, List.getD_eq_getElem?_getD, h]
theorem pcell_of {hs : List (Int × Nat)} {v vl : Nat} {tg : Int} (h : hs[v]? = some (tg, vl)) : (hs.map pcell)[v]? = some (.tup [tg, (vl : Int)]) := by
  rw [List.getElem?_map, h]; rfl
/-- a cell of two ints is a tuple of two -/
theorem CellIs.two {news : List (Addr × Obj)} {v : Value} {a b : Int} (h : CellIs news v (.tup [a, b])) : ∃ t k1 k2, v = .ref t ∧ (t, tupOf [Value.int a k1, .int b k2].toArray) ∈ news := by
  cases h with
  | tup hm hi =>
    cases hi with
    | cons _ k1 hi =>
      cases hi with
      | cons _ k2 hi =>
        cases hi
        exact ⟨_, k1, k2, rfl, hm⟩
end Mine
end

section
open PySem PySem.W PyProof.Rows
namespace Mine
local macro_rules | `(tactic| walk_at "subscriptTail") => `(tactic| (k_here; (with_reducible show wpAny _ _ (subscriptTail _ _ (Value.ref _) (Value.int _ _)) _ _ _); k_dflt (first
  | (refine' my_tup ?k1 ?k2 ?k3 ?k4 ?k5 ?_ ?k6 ?k7; (case k1 => k_asm); (case k2 => k_mem); (case k3 => first | decide | omega); (case k4 => first | decide | omega); (case k5 => first | rfl | assumption); (case k6 => with_unfolding_all rfl); (case k7 => intro _; with_unfolding_all rfl); k_whole)
  | (refine' my_lst ?k1 ?k2 ?k3 ?k4 ?k5 ?_ ?k6 ?k7; (case k1 => k_asm); (case k2 => k_mem); (case k3 => first | decide | omega); (case k4 => first | decide | omega); (case k5 => first | rfl | assumption); (case k6 => with_unfolding_all rfl); (case k7 => intro _; with_unfolding_all rfl); k_whole))))
local macro_rules | `(tactic| k_mem) => `(tactic| first | ktr_member | (refine List.mem_cons_of_mem _ ?_; k_mem))
local macro_rules | `(tactic| walk_at "call ref") => `(tactic| (refine hold_on ?_))
local macro_rules | `(tactic| walk_at "subscriptTail List cons Call ref int") => `(tactic| (k_here; k_dflt (refine kba_turn (value' := PySem.Expr.Name (PySem.Str.ofString "_") ⟨0, 0, 0, 0⟩) (fun _ => rfl) ?_)))
local macro_rules | `(tactic| walk_at "subscriptTail Subscript Name Name Name ref int") => `(tactic| (k_here; k_dflt (refine kba_turn (value' := PySem.Expr.Name (PySem.Str.ofString "_") ⟨0, 0, 0, 0⟩) (fun _ => rfl) ?_)))
local macro_rules | `(tactic| walk_at "call builtin:list.append") => `(tactic| (refine hold_on ?_))
local macro_rules | `(tactic| walk_at "call builtin:list.pop") => `(tactic| (refine hold_on ?_))
local macro_rules | `(tactic| walk_at "setItem ref int") => `(tactic| (refine hold_on ?_))
local macro_rules | `(tactic| walk_at "setItem ref int ref") => `(tactic| (refine hold_on ?_))
local macro_rules | `(tactic| walk_at "compareOp In int ref") => `(tactic| (refine hold_on ?_))
local macro_rules | `(tactic| walk_at "compareOp NotEq ref ref") => `(tactic| (refine hold_on ?_))
local macro_rules | `(tactic| walk_at "compareOp Eq ref ref") => `(tactic| (refine hold_on ?_))
local macro_rules | `(tactic| walk_at "call builtin:len") => `(tactic| (k_here; k_dflt (refine' my_len ?k1 ?k2 ?k3 ?_; (case k1 => k_asm); (case k2 => k_mem); (case k3 => omega); k_whole)))
local macro_rules | `(tactic| walk_at "newList") => `(tactic| (refine hold_on ?_))
local macro_rules | `(tactic| walk_at "exec For Name Call cons nil") => `(tactic| (refine hold_on ?_))
local macro_rules | `(tactic| walk_at "exec While Compare cons nil") => `(tactic| (refine hold_on ?_))
local macro_rules | `(tactic| walk_at "call type:range") => `(tactic| (refine hold_on ?_))
local macro_rules | `(tactic| walk_at "call type:list") => `(tactic| (refine hold_on ?_))
local macro_rules | `(tactic| walk_at "pyIter ref") => `(tactic| (refine hold_on ?_))

set_option maxRecDepth 100000 in
set_option maxHeartbeats 8000000 in
theorem main : PySem.Challenge.rw_rh0061_01.Holds := hd (by
  w_strict k_go0
  rename_i w s₀ s₁ mg mb G Y fa o pm doc kV ho hg KX X V GL T B TE TW w9 w8 M w7 w6 hcd w5 hs hlay0 hL1 hr1 hl2 w4 w3 w2 w1 w0 hL ra wl1 r0 hI hr hc1 hc0 K0 hD h₁ F N0
  refine wpAny_mono (Q := fun f s' => f = .ret (.bool true) ∧ ∃ h' tk m', s' = { s₁ with heap := h', toks := tk } ∧ Fr s₁.heap s₁.heap.objs.size h' m') (E := fun _ _ => False) ?body ?fin ?exc
  case exc => exact fun _ _ h => h.elim
  case fin =>
    rintro f s' ⟨rfl, h', tk, m', rfl, F'⟩
    k_steps
  clear hD hcd r0 wl1 ra hr hr1 hl2 hlay0 hs M TW TE B GL V X hg ho Y G
  k_fold
  k_steps
  unfold Hold
  rename IntsAre _ (List.take 60 _) => his
  rename News _ _ _ _ => Nx
  rename_i sc ws h2 Fx hC hL' l1
  clear hL hI hL1 w0 w3 w4 hc0
  have hws : ws.length ≤ 60 := by
    have := his.length
    omega
  refine my_newList (by k_asm) (by k_asm) (by simp) ?_
  intro u h3 F3 N3 hu
  have U := urn_start N3 his hws (hu _ (.head _)).symm
  clear Fx Nx
  k_steps
  unfold Hold
  refine does_use (by k_asm) (by k_asm) (by k_asm) (by k_asm) (by k_asm) rfl (d_pick _ _ u sc 5 _ (by decide) (by decide) U) (by ktr_room) (by ktr_units) ?_
  unfold Hold
  rintro r n1 h4 tk4 F4 N4 ⟨⟨f, tf, rfl, hf0, hf1⟩, U1, K1⟩
  obtain ⟨c, rfl⟩ : ∃ c : Nat, f = (c : Int) := ⟨f.toNat, by omega⟩
  clear U K1 hu
  k_steps
  unfold Hold
  refine my_newList (by k_asm) (by k_asm) (by simp) ?_
  intro hd h5 F5 N5 hhd
  k_steps
  unfold Hold
  refine my_newList (by k_asm) (by k_asm) (by simp) ?_
  intro an h6 F6 N6 han
  have C0 : Core _ u sc hd an [] [] := core_start N6 U1 hhd han
  clear U1 hhd han
  k_steps
  unfold Hold
  rename Fr _ _ _ _ => Fz
  rename News _ _ _ _ => Nz
  obtain ⟨k, hk⟩ : ∃ k : Nat, 1 + (c : Int) = (k : Int) := ⟨1 + c, by omega⟩
  have hk1 : 1 ≤ k := by omega
  have hk5 : k ≤ 5 := by omega
  rw [hk] at Fz
  with_unfolding_all refine For_invVF Fz (by exact rfl) (by exact rfl) ?_
  k_steps
  unfold Hold
  refine range1_rows (by k_asm) (by k_asm) ?_
  intro h7 tk7 t₁ u₁ v₁ R7 F7 N7 keep7
  clear Fz Nz
  k_steps
  unfold Hold
  refine range_inv (n := k) (fun i m nw => ∃ hs ns, hs.length = i ∧ ns.length = i ∧ (∀ p ∈ hs, okp k p) ∧ Core nw u sc hd an hs ns ∧
    m (Str.ofString "urn") = some (.ref u) ∧ (∃ t, m (Str.ofString "count") = some (.int (k : Int) t)) ∧ m (Str.ofString "held") = some (.ref hd) ∧ m (Str.ofString "anew") = some (.ref an))
    rfl R7 rfl (by omega) F7 N7 ⟨[], [], rfl, rfl, fun p hp => (nomatch hp), C0, by with_unfolding_all rfl, ⟨_, by with_unfolding_all rfl⟩, by with_unfolding_all rfl, by with_unfolding_all rfl⟩ ?_ ?_
  · rintro i I it t m₁ nw h8 tk8 hi hit ⟨hs, ns, l1, l2, l3, C1, q1, ⟨tc, q2⟩, q3, q4⟩ F8 N8
    replace F8 := fr_turn4 F8 q1 q2 q3 q4 (by decide) (by decide) (by decide) (by decide)
    have hI8 : (I, it) ∈ (I, it) :: nw := .head _
    have C8 := C1.up1 N8
    k_steps
    unfold Hold
    refine my_newList (by k_asm) (by k_asm) (by simp) ?_
    intro lt h9 F9 N9 hlt
    have C9 := C8.up1 N9
    have hf9 := func_of N9
    have hlt' : lt ∉ [u] := fun q => C8.apart hlt (List.mem_singleton.mp q ▸ .head _)
    k_steps
    unfold Hold
    refine does_use (by k_asm) (by k_asm) (by k_asm) (by k_asm) (by k_asm) rfl (d_pick _ _ u sc 5 _ (by decide) (by decide) C9.urn) (by ktr_room) (by ktr_units) ?_
    unfold Hold
    rintro r n2 h10 tk10 F10 N10 ⟨⟨f1, tf1, rfl, hf0, hf1⟩, U2, K2⟩
    have C10 := C9.pick U2 K2
    have hf10 := func_of N10
    have hI10 := C9.it hf9 (.tail _ hI8) hit K2
    have hlt10 := K2.rest _ (.head _) hlt'
    obtain ⟨tv, tt, hx, htv⟩ := menu1 hf0 hf1
    obtain ⟨hvs, hn, hm10, hc10⟩ := C10.held
    clear hlt hlt' C8 C9 F9 N9 U2 K2 C1 hf9
    k_steps
    unfold Hold
    refine does_use (by k_asm) (by k_asm) (by k_asm) (by k_asm) (by k_asm) rfl (d_pick _ _ u sc (k : Int) _ (by omega) (by omega) C10.urn) (by ktr_room) (by ktr_units) ?_
    unfold Hold
    rintro r n3 h11 tk11 F11 N11 ⟨⟨f2, tf2, rfl, hf2, hf3⟩, U3, K3⟩
    obtain ⟨v, rfl⟩ : ∃ v : Nat, f2 = (v : Int) := ⟨f2.toNat, by omega⟩
    have C11 := C10.pick U3 K3
    have hI11 := C10.it hf10 hI10 hit K3
    have hf11 := func_of N11
    clear hx hlt10 hm10 hc10 C10
    obtain ⟨hvs, hn, hm11, hc11⟩ := C11.held
    have hlv := hc11.length
    rw [List.length_map] at hlv
    k_steps
    rename News _ _ _ _ => N12
    obtain ⟨C12, K12⟩ := core_held (n' := hn + 1) N12 C11 hm11 hc11
    unfold Hold
    refine my_append (by k_asm) (by k_asm) (.tail _ hm11) (by rw [sizeLine_eq]; omega) ?_
    intro h13 F13 N13
    have hI13 := K12.rest _ (.tail _ hI11) (it_off hf11 hI11 hit hm11)
    generalize setAt _ hd _ = n5 at N13 C12 K12 hI13
    have hf13 := func_of N13
    obtain ⟨avs0, an0, hm13, hc13⟩ := C12.anew
    k_steps
    unfold Hold
    refine does_use (by k_asm) (by k_asm) (by k_asm) (by k_asm) (by k_asm) rfl (d_pick _ _ u sc 50 _ (by decide) (by decide) C12.urn) (by ktr_room) (by ktr_units) ?_
    unfold Hold
    rintro r n6 h14 tk14 F14 N14 ⟨⟨f3, tf3, rfl, hf4, hf5⟩, U4, K4⟩
    have C14 := C12.pick U4 K4
    have hI14 := C12.it hf13 hI13 hit K4
    have hf14 := func_of N14
    obtain ⟨avs, an', hm14, hc14⟩ := C14.anew
    have hla := hc14.length
    k_steps
    obtain ⟨C15, K15⟩ := core_anew (i := f3) (t := tf3) (n' := an' + 1) N14 C14 hm14 hc14
    unfold Hold
    refine my_append (by k_asm) (by k_asm) hm14 (by rw [sizeLine_eq]; omega) ?_
    intro h16 F16 N16
    have hI16 := K15.rest _ hI14 (it_off hf14 hI14 hit hm14)
    k_steps
    refine drop_end (by k_asm) (by k_asm) hI16 ⟨hs ++ [(tv, v)], ns ++ [f3], by simp [l1], by simp [l2], fun p hp => ?_, C15.off (func_of N16) hI16 hit, by with_unfolding_all rfl, ⟨_, by with_unfolding_all rfl⟩, by with_unfolding_all rfl, by with_unfolding_all rfl⟩
    rcases List.mem_append.mp hp with hp | hp
    · exact l3 p hp
    · rw [List.mem_singleton.mp hp]
      exact ⟨htv, by show v < k; omega⟩
  · rintro m₁ nw h8 tk8 ⟨hs, ns, l1, l2, l3, C1, q1, ⟨tc, q2⟩, q3, q4⟩ F8 N8
    replace F8 := fr_puts _ F8 (all4 q1 q2 q3 q4)
    obtain ⟨hvs, hn, hmh, hch⟩ := C1.held
    have hlh := hch.length
    rw [List.length_map] at hlh
    k_steps
    unfold Hold
    refine my_copy (by k_asm) (by k_asm) hmh (by omega) ?_
    intro p0 c0 h9 F9 N9 hp0
    k_steps
    unfold Hold
    refine my_newList (by k_asm) (by k_asm) (by simp) ?_
    intro p1 h9 F9 N9 hp1
    k_steps
    unfold Hold
    refine my_newList (by k_asm) (by k_asm) (by simp) ?_
    intro p2 h9 F9 N9 hp2
    k_steps
    unfold Hold
    refine my_newList (by k_asm) (by k_asm) (by simp) ?_
    intro p3 h9 F9 N9 hp3
    k_steps
    unfold Hold
    refine my_newList (by k_asm) (by k_asm) (by simp) ?_
    intro p4 h9 F9 N9 hp4
    k_steps
    unfold Hold
    refine my_newList (by k_asm) (by k_asm) (by simp) ?_
    intro pa h9 F9 N9 hpa
    k_steps
    unfold Hold
    refine my_copy (by k_asm) (by k_asm) (.tail _ (.tail _ (.tail _ (.tail _ (.tail _ (.tail _ hmh)))))) (by omega) ?_
    intro d0 c1 h9 F9 N9 hd0
    k_steps
    unfold Hold
    refine my_newList (by k_asm) (by k_asm) (by simp) ?_
    intro d1 h9 F9 N9 hd1
    k_steps
    unfold Hold
    refine my_newList (by k_asm) (by k_asm) (by simp) ?_
    intro d2 h9 F9 N9 hd2
    k_steps
    unfold Hold
    refine my_newList (by k_asm) (by k_asm) (by simp) ?_
    intro d3 h9 F9 N9 hd3
    k_steps
    unfold Hold
    refine my_newList (by k_asm) (by k_asm) (by simp) ?_
    intro d4 h9 F9 N9 hd4
    k_steps
    unfold Hold
    refine my_newList (by k_asm) (by k_asm) (by simp) ?_
    intro da h9 F9 N9 hda
    have Lw := law_start N9 C1 hch hp0 hp1 hp2 hp3 hp4 hpa hd0 hd1 hd2 hd3 hd4 hda
    k_steps
    unfold Hold
    rename Fr _ _ _ _ => Fz
    rename News _ _ _ _ => Nz
    clear hp0 hp1 hp2 hp3 hp4 hpa hd0 hd1 hd2 hd3 hd4 hda
    with_unfolding_all refine For_invVF Fz (by exact rfl) (by exact rfl) ?_
    k_steps
    unfold Hold
    refine does_use (by k_asm) (by k_asm) (by k_asm) (by k_asm) (by k_asm) rfl (d_pick _ _ u sc 9 _ (by decide) (by decide) Lw.core.urn) (by ktr_room) (by ktr_units) ?_
    unfold Hold
    rintro r n10 h10 tk10 F10 N10 ⟨⟨f, tf, rfl, hf0, hf1⟩, U10, K10⟩
    have L10 := Lw.pick U10 K10
    generalize [p0, p1, p2, p3, p4] = ps at L10
    generalize [d0, d1, d2, d3, d4] = ds at L10
    obtain ⟨Iv0, hl0⟩ := inv_start (ns := ns) l1 l3
    clear Lw U10 K10 Fz Nz hmh hch hlh
    k_steps
    unfold Hold
    refine range1_rows (by k_asm) (by k_asm) ?_
    intro h11 tk11 t₁ u₁ v₁ R11 F11 N11 keep11
    clear keep11
    k_steps
    unfold Hold
    obtain ⟨n, hn⟩ : ∃ n : Nat, 1 + f = (n : Int) := ⟨(1 + f).toNat, by omega⟩
    have hn9 : n ≤ 9 := by omega
    refine range_inv (n := n) (fun i m nw => ∃ A D lk, Law nw u sc hd an pa da ps ds hs ns A D ∧ Inv hs ns (List.range k) A D lk ∧ (∀ x ∈ lens A, x ≤ k + i) ∧
      m (Str.ofString "urn") = some (.ref u) ∧ (∃ t, m (Str.ofString "count") = some (.int (k : Int) t)) ∧ m (Str.ofString "held") = some (.ref hd) ∧ m (Str.ofString "anew") = some (.ref an) ∧
      m (Str.ofString "parts") = some (.ref pa) ∧ m (Str.ofString "due") = some (.ref da))
      rfl R11 hn (by omega) F11 N11 ⟨_, _, _, L10, Iv0, hl0, by with_unfolding_all rfl, ⟨_, by with_unfolding_all rfl⟩, by with_unfolding_all rfl, by with_unfolding_all rfl, by with_unfolding_all rfl, by with_unfolding_all rfl⟩ ?_ ?_
    · clear L10 Iv0 hl0 F10 N10 F11 N11 R11
      rintro i I it t m₁ nw h12 tk12 hi hit ⟨A, D, lk, Lw, Iv, hlen, q1, ⟨tc, q2⟩, q3, q4, q5, q6⟩ F12 N12
      replace F12 := fr_turn6 F12 q1 q2 q3 q4 q5 q6 (by decide) (by decide) (by decide) (by decide) (by decide) (by decide)
      have hI12 : (I, it) ∈ (I, it) :: nw := .head _
      have hf12 := func_of N12
      have L12 := Lw.up1 N12
      k_steps
      unfold Hold
      refine does_use (by k_asm) (by k_asm) (by k_asm) (by k_asm) (by k_asm) rfl (d_pick _ _ u sc 5 _ (by decide) (by decide) L12.core.urn) (by ktr_room) (by ktr_units) ?_
      unfold Hold
      rintro r n13 h13 tk13 F13 N13 ⟨⟨f1, tf1, rfl, g0, g1⟩, U13, K13⟩
      obtain ⟨part, rfl⟩ : ∃ part : Nat, f1 = (part : Int) := ⟨f1.toNat, by omega⟩
      have L13 := L12.pick U13 K13
      have hI13 := L12.itU hf12 hI12 hit K13
      clear Lw L12 hI12 hf12 N12 F12 U13 K13
      k_steps
      unfold Hold
      refine my_newList (by k_asm) (by k_asm) (by simp) ?_
      intro lt h14 F14 N14 hlt
      have L14 := L13.up1 N14
      have hf14 := func_of N14
      have hlt' : lt ∉ [u] := fun q => (L13.apart hlt).1 (List.mem_singleton.mp q ▸ .head _)
      clear L13 hlt
      k_steps
      unfold Hold
      refine does_use (by k_asm) (by k_asm) (by k_asm) (by k_asm) (by k_asm) rfl (d_pick _ _ u sc 5 _ (by decide) (by decide) L14.core.urn) (by ktr_room) (by ktr_units) ?_
      unfold Hold
      rintro r n15 h15 tk15 F15 N15 ⟨⟨f2, tf2, rfl, g2, g3⟩, U15, K15⟩
      have L15 := L14.pick U15 K15
      have hI15 := L14.itU hf14 (.tail _ hI13) hit K15
      have hlt15 := K15.rest _ (.head _) hlt'
      have hf15 := func_of N15
      obtain ⟨tv, tt, hx, htv⟩ := menu2 g2 g3
      clear hlt' L14 F14 N14 U15 K15 hf14 hI13
      k_steps
      unfold Hold
      refine does_use (by k_asm) (by k_asm) (by k_asm) (by k_asm) (by k_asm) rfl (d_pick _ _ u sc (k : Int) _ (by omega) (by omega) L15.core.urn) (by ktr_room) (by ktr_units) ?_
      unfold Hold
      rintro r n16 h16 tk16 F16 N16 ⟨⟨f3, tf3, rfl, g4, g5⟩, U16, K16⟩
      obtain ⟨v, rfl⟩ : ∃ v : Nat, f3 = (v : Int) := ⟨f3.toNat, by omega⟩
      have L16 := L15.pick U16 K16
      have hI16 := L15.itU hf15 hI15 hit K16
      have hf16 := func_of N16
      clear hx hlt15 L15 hI15 hf15 U16 K16 g2 g3
      obtain ⟨cs, dcs, ea, ed, elen⟩ := Iv.areas (i := part) (by omega)
      obtain ⟨ap, vs, np, e1, e1', hm16, hc16⟩ := L16.parts.at ea
      obtain ⟨npt, htop⟩ := L16.parts.top
      have hvl := hc16.length
      have hcl := hlen _ (lens_mem ea)
      k_steps
      unfold Hold
      rename News _ _ _ _ => N17
      refine my_inTup N17 (.head _) (.cons _ _ (.cons _ _ (.cons _ _ .nil))) ?_
      rw [in_menu]
      have L17 := L16.up1 N17
      have hf17 := func_of N17
      have hI17 := mem_up N17 hI16
      by_cases hq : tv = 0 ∨ tv = 2 ∨ tv = 3
      · rw [decide_eq_true hq]
        by_cases h4 : part = 4
        · -- A
          k_steps
          rotate_left
          · exfalso
            omega
          unfold Hold
          rename News _ _ _ _ => N18
          obtain ⟨L18, K18⟩ := law_add (n' := np + 1) (c := .num (v : Int)) N18 L17 ea e1 (.tail _ hm16) (hc16.keep (Keep.cons (S := []))) (.num _ _)
          refine my_append (by k_asm) (by k_asm) (.tail _ hm16) (by rw [sizeLine_eq]; omega) ?_
          intro h19 F19 N19
          have hI19 := L17.parts.it hf17 hI17 hit K18
          have hf19 := func_of N19
          obtain ⟨dp, dvs, nd, e2, e2', hm19, hc19⟩ := L18.due.at ed
          obtain ⟨nda, hdtop⟩ := L18.due.top
          obtain ⟨avs, na, hma, hia⟩ := L18.core.anew
          obtain ⟨tka, hav⟩ := ints_get hia (v := v) (by omega)
          have hdl := hc19.length
          k_steps
          unfold Hold
          obtain ⟨L20, K20⟩ := law_addD (n' := nd + 1) (c := .num (ns.getD v 0)) N19 L18 ed e2 hm19 hc19 (.num _ _)
          refine my_append (by k_asm) (by k_asm) hm19 (by rw [sizeLine_eq]; omega) ?_
          intro h20 F20 N20
          have hI20 := L18.due.it hf19 hI19 hit K20
          have hf20 := func_of N20
          obtain ⟨hp, old, lk', i1, i2, Iv2⟩ := Iv.laid ea ed (List.mem_range.mpr (by omega)) (by omega) (.num (v : Int)) 0 (v := v)
          have ea1 : (addC A part (.num (v : Int)))[4]? = some (cs ++ [.num (v : Int)]) := by
            rw [← h4, addC_at ea, if_pos rfl]
          k_steps
          unfold Hold
          refine does_use (by k_asm) (by k_asm) (by k_asm) (by k_asm) (by k_asm) rfl (d_hang _ _ pa ps _ 4 vs.length v 0 _ _ _ _ _ hp old L20.parts ea1 i1 (by simp; omega) (by omega) i2 (by omega)) (by ktr_room) (by ktr_units) ?_
          unfold Hold
          rintro r n21 h21 tk21 F21 N21 ⟨rfl, S21, K21⟩
          have hI21 := L20.parts.it hf20 hI20 hit K21
          have L21 := L20.setParts S21 K21
          k_steps
          refine drop_end (by k_asm) (by k_asm) hI21 ⟨_, _, lk', L21.off (func_of N21) hI21 hit, ?_, ?_, by with_unfolding_all rfl, ⟨_, by with_unfolding_all rfl⟩, by with_unfolding_all rfl, by with_unfolding_all rfl, by with_unfolding_all rfl, by with_unfolding_all rfl⟩
          · rw [hvl]
            unfold newCell at Iv2
            simpa only [h4, if_true] using Iv2
          · rw [lens_hang]
            exact lens_add hlen
        · -- B
          k_steps
          · exfalso
            omega
          unfold Hold
          rename News _ _ _ _ => N18
          have L17b := L17.up1 N18
          have hf18 := func_of N18
          obtain ⟨L18, K18⟩ := law_add (n' := np + 1) (c := .tup [tv, (v : Int)]) N18 L17b ea e1 (.tail _ (.tail _ hm16)) (hc16.keep ((Keep.cons (S := [])).trans Keep.cons)) (.tup (.head _) (.cons _ _ (.cons _ _ .nil)))
          refine my_append (by k_asm) (by k_asm) (.tail _ (.tail _ hm16)) (by rw [sizeLine_eq]; omega) ?_
          intro h19 F19 N19
          have hI19 := L17b.parts.it hf18 (.tail _ hI17) hit K18
          have hf19 := func_of N19
          obtain ⟨dp, dvs, nd, e2, e2', hm19, hc19⟩ := L18.due.at ed
          obtain ⟨nda, hdtop⟩ := L18.due.top
          obtain ⟨avs, na, hma, hia⟩ := L18.core.anew
          obtain ⟨tka, hav⟩ := ints_get hia (v := v) (by omega)
          have hdl := hc19.length
          k_steps
          unfold Hold
          rename News _ _ _ _ => N19b
          have L18b := L18.up1 N19b
          have hf19b := func_of N19b
          obtain ⟨L20, K20⟩ := law_addD (n' := nd + 1) (c := .tup [tv, ns.getD v 0]) N19b L18b ed e2 (.tail _ hm19) (hc19.keep (Keep.cons (S := []))) (.tup (.head _) (.cons _ _ (.cons _ _ .nil)))
          refine my_append (by k_asm) (by k_asm) (.tail _ hm19) (by rw [sizeLine_eq]; omega) ?_
          intro h20 F20 N20
          have hI20 := L18b.due.it hf19b (.tail _ hI19) hit K20
          have hf20 := func_of N20
          obtain ⟨hp, old, lk', i1, i2, Iv2⟩ := Iv.laid ea ed (List.mem_range.mpr (by omega)) (by omega) (.tup [tv, (v : Int)]) tv (v := v)
          have ea1 : (addC A part (.tup [tv, (v : Int)]))[part]? = some (cs ++ [.tup [tv, (v : Int)]]) := by
            rw [addC_at ea, if_pos rfl]
          k_steps
          unfold Hold
          refine does_use (by k_asm) (by k_asm) (by k_asm) (by k_asm) (by k_asm) rfl (d_hangroot _ _ pa ps _ part vs.length v tv _ _ _ hp old L20.parts ea1 i1 (by rw [hvl]; simp) (by omega) i2 (by omega)) (by ktr_room) (by ktr_units) ?_
          unfold Hold
          rintro r n21 h21 tk21 F21 N21 ⟨rfl, S21, K21⟩
          have hI21 := L20.parts.it hf20 hI20 hit K21
          have L21 := L20.setParts S21 K21
          rw [if_pos hq] at L21
          k_steps
          refine drop_end (by k_asm) (by k_asm) hI21 ⟨_, _, lk', L21.off (func_of N21) hI21 hit, ?_, ?_, by with_unfolding_all rfl, ⟨_, by with_unfolding_all rfl⟩, by with_unfolding_all rfl, by with_unfolding_all rfl, by with_unfolding_all rfl, by with_unfolding_all rfl⟩
          · rw [hvl]
            unfold newCell at Iv2
            simpa only [h4, if_false] using Iv2
          · rw [lens_hang]
            exact lens_add hlen
      · rw [decide_eq_false hq]
        by_cases h4 : part = 4
        · -- C
          k_steps
          rotate_left
          · exfalso
            omega
          unfold Hold
          rename News _ _ _ _ => N18
          obtain ⟨L18, K18⟩ := law_add (n' := np + 1) (c := .num (-1 - (v : Int))) N18 L17 ea e1 (.tail _ hm16) (hc16.keep (Keep.cons (S := []))) (.num _ _)
          refine my_append (by k_asm) (by k_asm) (.tail _ hm16) (by rw [sizeLine_eq]; omega) ?_
          intro h19 F19 N19
          have hI19 := L17.parts.it hf17 hI17 hit K18
          have hf19 := func_of N19
          obtain ⟨dp, dvs, nd, e2, e2', hm19, hc19⟩ := L18.due.at ed
          obtain ⟨nda, hdtop⟩ := L18.due.top
          obtain ⟨avs, na, hma, hia⟩ := L18.core.anew
          obtain ⟨tka, hav⟩ := ints_get hia (v := v) (by omega)
          have hdl := hc19.length
          k_steps
          unfold Hold
          obtain ⟨L20, K20⟩ := law_addD (n' := nd + 1) (c := .num (-1 - (v : Int))) N19 L18 ed e2 hm19 hc19 (.num _ _)
          refine my_append (by k_asm) (by k_asm) hm19 (by rw [sizeLine_eq]; omega) ?_
          intro h20 F20 N20
          have hI20 := L18.due.it hf19 hI19 hit K20
          have hf20 := func_of N20
          k_steps
          exact drop_end (by k_asm) (by k_asm) hI20 ⟨_, _, lk, L20.off hf20 hI20 hit, Iv.add part _, lens_add hlen, by with_unfolding_all rfl, ⟨_, by with_unfolding_all rfl⟩, by with_unfolding_all rfl, by with_unfolding_all rfl, by with_unfolding_all rfl, by with_unfolding_all rfl⟩
        · -- D
          k_steps
          · exfalso
            omega
          unfold Hold
          rename News _ _ _ _ => N18
          have L17b := L17.up1 N18
          have hf18 := func_of N18
          obtain ⟨L18, K18⟩ := law_add (n' := np + 1) (c := .tup [tv, (v : Int)]) N18 L17b ea e1 (.tail _ (.tail _ hm16)) (hc16.keep ((Keep.cons (S := [])).trans Keep.cons)) (.tup (.head _) (.cons _ _ (.cons _ _ .nil)))
          refine my_append (by k_asm) (by k_asm) (.tail _ (.tail _ hm16)) (by rw [sizeLine_eq]; omega) ?_
          intro h19 F19 N19
          have hI19 := L17b.parts.it hf18 (.tail _ hI17) hit K18
          have hf19 := func_of N19
          obtain ⟨dp, dvs, nd, e2, e2', hm19, hc19⟩ := L18.due.at ed
          obtain ⟨nda, hdtop⟩ := L18.due.top
          obtain ⟨avs, na, hma, hia⟩ := L18.core.anew
          obtain ⟨tka, hav⟩ := ints_get hia (v := v) (by omega)
          have hdl := hc19.length
          k_steps
          unfold Hold
          rename News _ _ _ _ => N19b
          have L18b := L18.up1 N19b
          have hf19b := func_of N19b
          obtain ⟨L20, K20⟩ := law_addD (n' := nd + 1) (c := .tup [tv, (v : Int)]) N19b L18b ed e2 (.tail _ hm19) (hc19.keep (Keep.cons (S := []))) (.tup (.head _) (.cons _ _ (.cons _ _ .nil)))
          refine my_append (by k_asm) (by k_asm) (.tail _ hm19) (by rw [sizeLine_eq]; omega) ?_
          intro h20 F20 N20
          have hI20 := L18b.due.it hf19b (.tail _ hI19) hit K20
          have hf20 := func_of N20
          obtain ⟨hp, old, lk', i1, i2, Iv2⟩ := Iv.laid ea ed (List.mem_range.mpr (by omega)) (by omega) (.tup [tv, (v : Int)]) tv (v := v)
          have ea1 : (addC A part (.tup [tv, (v : Int)]))[part]? = some (cs ++ [.tup [tv, (v : Int)]]) := by
            rw [addC_at ea, if_pos rfl]
          k_steps
          unfold Hold
          refine does_use (by k_asm) (by k_asm) (by k_asm) (by k_asm) (by k_asm) rfl (d_hangroot _ _ pa ps _ part vs.length v tv _ _ _ hp old L20.parts ea1 i1 (by rw [hvl]; simp) (by omega) i2 (by omega)) (by ktr_room) (by ktr_units) ?_
          unfold Hold
          rintro r n21 h21 tk21 F21 N21 ⟨rfl, S21, K21⟩
          have hI21 := L20.parts.it hf20 hI20 hit K21
          have L21 := L20.setParts S21 K21
          rw [if_neg hq] at L21
          k_steps
          exact drop_end (by k_asm) (by k_asm) hI21 ⟨_, _, lk, L21.off (func_of N21) hI21 hit, Iv.add part _, lens_add hlen, by with_unfolding_all rfl, ⟨_, by with_unfolding_all rfl⟩, by with_unfolding_all rfl, by with_unfolding_all rfl, by with_unfolding_all rfl, by with_unfolding_all rfl⟩
    · -- THE REST
      clear L10 Iv0 hl0 F10 N10 F11 N11 R11
      rintro m₁ nw h12 tk12 ⟨A, D, lk, Lw, Iv, hlen, q1, ⟨tc, q2⟩, q3, q4, q5, q6⟩ F12 N12
      replace F12 := fr_puts _ F12 (all6 q1 q2 q3 q4 q5 q6)
      k_steps
      unfold Hold
      refine range1_rows (by k_asm) (by k_asm) ?_
      intro h13 tk13 t₁ u₁ v₁ R13 F13 N13 keep13
      clear keep13
      k_steps
      unfold Hold
      refine kll_range (n := k) (by rfl) (by k_asm) (by k_asm) R13 (small_one (by decide) (by decide) (by omega) (by omega)) (by rw [rangeSize_nat]; omega) (by omega) ?_
      intro wt us c13 h14 tk14 F14 N14 hwt hus
      rw [casts_range] at hus
      have L14 := Lw.up1 N14
      have hal : Alone wt u sc hd an pa da ps ds := Lw.apart fun p hp => Nat.ne_of_lt (hwt p hp)
      clear F12 N12 F13 N13 R13 Lw hwt
      k_steps
      unfold Hold
      rename Fr _ _ _ _ => Fw
      rename News _ _ _ _ => Nw
      refine While_inv2 (n₀ := k) (fun n m nw => ∃ W ws nW A D lk, n = W.length ∧ Law nw u sc hd an pa da ps ds hs ns A D ∧ (wt, listOf (List.toArray ws) nW) ∈ nw ∧ IntsAre ws (casts W) ∧ W.Nodup ∧ W.length ≤ k ∧ Inv hs ns W A D lk ∧ (∀ x ∈ lens A, x ≤ 14) ∧
        m (Str.ofString "urn") = some (.ref u) ∧ m (Str.ofString "held") = some (.ref hd) ∧ m (Str.ofString "anew") = some (.ref an) ∧
        m (Str.ofString "parts") = some (.ref pa) ∧ m (Str.ofString "due") = some (.ref da) ∧ m (Str.ofString "waiting") = some (.ref wt))
        Fw Nw ⟨List.range k, us, c13, A, D, lk, by simp, L14, .head _, hus, List.nodup_range, by simp, Iv, fun x hx => Nat.le_trans (hlen x hx) (by omega), by with_unfolding_all rfl, by with_unfolding_all rfl, by with_unfolding_all rfl, by with_unfolding_all rfl, by with_unfolding_all rfl, by with_unfolding_all rfl⟩ ?_
      clear Fw Nw L14 Iv hlen hus q1 q2 q3 q4 q5 q6
      rintro n m₂ nw h₁ tk₁ F₁ N₁ ⟨W, ws, nW, A, D, lk, rfl, L1, hmw, hiw, hnd, hWk, Iv, hlen, q1, q2, q3, q4, q5, q6⟩
      replace F₁ := fr_puts _ F₁ (all6 q1 q2 q3 q4 q5 q6)
      have hwl := hiw.length
      have hcl : (casts W).length = W.length := by simp [casts]
      k_steps
      · -- a turn
        unfold Hold
        refine does_use (by k_asm) (by k_asm) (by k_asm) (by k_asm) (by k_asm) rfl (d_pick _ _ u sc (ws.length : Int) _ (by omega) (by omega) L1.core.urn) (by ktr_room) (by ktr_units) ?_
        unfold Hold
        rintro r n2 h2 tk2 F2 N2 ⟨⟨f, tf, rfl, hf0, hf1⟩, U2, K2⟩
        obtain ⟨i, rfl⟩ : ∃ i : Nat, f = (i : Int) := ⟨f.toNat, by omega⟩
        have L2 := L1.pick U2 K2
        have hmw2 := K2.rest _ hmw hal.offU
        have hiW : i < W.length := by omega
        obtain ⟨v, hv⟩ : ∃ v, W[i]? = some v := ⟨W[i], List.getElem?_eq_getElem hiW⟩
        obtain ⟨tv, htv⟩ := hiw.get i (v : Int) (by simp [casts, hv])
        clear L1 hmw K2 U2 N₁ F₁ q1 q2 q3 q4 q5 q6
        k_steps
        unfold Hold
        refine my_popAt (by k_asm) (by k_asm) hmw2 (by omega) (by simpa using htv) (by omega) ?_
        intro h3 F3 N3
        simp only [Int.toNat_natCast] at N3
        have L3 := law_wait (vs' := ws.eraseIdx i) (n' := nW + 1) N2 L2 hmw2 hal
        have hmw3 := mem_setAt_self (o' := listOf (List.toArray (ws.eraseIdx i)) (nW + 1)) hmw2
        have hiw3 := ints_erase hiw i
        rw [casts_erase] at hiw3
        have hvW : v ∈ W := List.mem_of_getElem? hv
        have hW' := erase_mem hnd i hv
        have hnd' := erase_nodup hnd i
        have hlW' : (W.eraseIdx i).length + 1 = W.length := by rw [List.length_eraseIdx, if_pos hiW]; omega
        have hvk : v < hs.length := Iv.node v hvW
        obtain ⟨⟨tg, vl⟩, hp⟩ : ∃ p, hs[v]? = some p := ⟨hs[v], List.getElem?_eq_getElem hvk⟩
        have hok := l3 _ (List.mem_of_getElem? hp)
        obtain ⟨old, hold, hC⟩ := Iv.chain v hvW
        obtain ⟨hpc, hpc1, hpc2⟩ := getC_some hold
        obtain ⟨Iv', hA', hun⟩ := Iv.release hvW hW'
        obtain ⟨avs, na, hma, hia⟩ := L3.core.anew
        obtain ⟨tka, hav⟩ := ints_get hia (v := v) (by omega)
        generalize setAt n2 wt _ = n3 at N3 L3 hmw3 hma
        generalize W.eraseIdx i = W' at hiw3 hW' hnd' hlW' Iv' hun
        generalize ws.eraseIdx i = ws' at hiw3 hmw3
        clear L2 hmw2 htv hiw hwl hcl N2 F2
        k_steps
        unfold Hold
        refine does_use (by k_asm) (by k_asm) (by k_asm) (by k_asm) (by k_asm) rfl (d_release _ _ pa ps A v (ns.getD v 0) _ _ hpc old (hcell hs v) (lk v) L3.parts hpc1 hpc2 (by omega) hC) (by ktr_room) (by ktr_units) ?_
        unfold Hold
        rintro r n4 h4 tk4 F4 N4 ⟨rfl, S4, K4⟩
        have L4 := L3.setParts S4 K4
        have hmw4 := K4.rest _ hmw3 hal.offP
        clear L3 hmw3 S4 K4 hma
        have hl1 : ∀ x ∈ lens (setC (relA A (lk v) (ns.getD v 0)) 0 v (hcell hs v)), x ≤ 14 := by rw [lens_setC, lens_relA]; exact hlen
        generalize setC (relA A (lk v) (ns.getD v 0)) 0 v (hcell hs v) = A1 at L4 Iv' hA' hl1
        rw [hcell_of hp] at hA'
        obtain ⟨hp1, ea, eb⟩ := getC_some hA'
        obtain ⟨a0, vs0, n0, ea0, ea0', hm0, hc0⟩ := L4.parts.at ea
        obtain ⟨npt, htop⟩ := L4.parts.top
        obtain ⟨x0, hx0, hx0'⟩ := hc0.get eb
        obtain ⟨xt, k1, k2, rfl, hxm⟩ := hx0'.two
        obtain ⟨hvs, hn, hmh, hch⟩ := L4.core.held
        obtain ⟨y0, hy0, hy0'⟩ := hch.get (pcell_of hp)
        obtain ⟨yt, k3, k4, rfl, hym⟩ := hy0'.two
        have hvk' : v < 1000 := by omega
        have hvlk : vl < k := hok.2
        k_steps
        unfold Hold
        refine my_ne (by k_asm) hx0' hy0' (by ke_room) ?_
        k_steps
        unfold Hold
        refine my_in (by k_asm) hmw4 hiw3 ?_
        rw [any_casts]
        by_cases hin : vl ∈ W'
        · rw [decide_eq_true hin]
          k_steps
          unfold Hold
          refine does_use (by k_asm) (by k_asm) (by k_asm) (by k_asm) (by k_asm) rfl (d_pick _ _ u sc 3 _ (by decide) (by decide) L4.core.urn) (by ktr_room) (by ktr_units) ?_
          unfold Hold
          rintro r n5 h5 tk5 F5 N5 ⟨⟨f, tf, rfl, hf0, hf1⟩, U5, K5⟩
          have L5 := L4.pick U5 K5
          have hmw5 := K5.rest _ hmw4 hal.offU
          k_steps
          · unfold Hold
            obtain ⟨old', ho', _⟩ := Iv'.chain vl hin
            have hov : hp1[vl]? = some old' := by
              obtain ⟨cs1, i1, i2⟩ := getC_some ho'
              rw [ea] at i1
              cases i1
              exact i2
            refine does_use (by k_asm) (by k_asm) (by k_asm) (by k_asm) (by k_asm) rfl (d_hangroot _ _ pa ps A1 0 v vl tg _ _ hp1 hp1 old' L5.parts ea ea eb hvk' hov (by omega)) (by ktr_room) (by ktr_units) ?_
            unfold Hold
            rintro r n6 h6 tk6 F6 N6 ⟨rfl, S6, K6⟩
            have L6 := L5.setParts S6 K6
            have hmw6 := K6.rest _ hmw5 hal.offP
            obtain ⟨cs0, dcs0, ec0, ed0, el0⟩ := Iv'.areas (i := 0) (by decide)
            rw [ea] at ec0
            cases ec0
            obtain ⟨dp, dvs, nd, e2, e2', hm6, hc6⟩ := L6.due.at ed0
            obtain ⟨nda, hdtop⟩ := L6.due.top
            obtain ⟨avs, na, hma, hia⟩ := L6.core.anew
            obtain ⟨tkb, hav'⟩ := ints_get hia (v := vl) (by omega)
            have hdl := hc6.length
            have hvl := (List.getElem?_eq_some_iff.mp eb).1
            k_steps
            unfold Hold
            rename News _ _ _ _ => N7
            have L7 := L6.up1 N7
            refine my_inTup N7 (.head _) (.cons _ _ (.cons _ _ (.cons _ _ .nil))) ?_
            rw [in_menu]
            by_cases hq : tg = 0 ∨ tg = 2 ∨ tg = 3
            · rw [decide_eq_true hq]
              rw [if_pos hq] at L7
              k_steps
              unfold Hold
              rename News _ _ _ _ => N8
              have L8 := L7.up1 N8
              obtain ⟨L9, K9⟩ := law_setD (p := v) (n' := nd) (c := .tup [tg, ns.getD vl 0]) N8 L8 ed0 e2 (.tail _ (.tail _ hm6)) (hc6.keep ((Keep.cons (S := [])).trans Keep.cons)) (.tup (.head _) (.cons _ _ (.cons _ _ .nil)))
              refine my_set (by k_asm) (by k_asm) (.tail _ (.tail _ hm6)) (by omega) (by simp only [Int.toNat_natCast]; omega) (by omega) ?_
              intro h9 F9 N9
              simp only [Int.toNat_natCast] at N9
              have hmw9 := K9.rest _ (.tail _ (.tail _ hmw6)) hal.offD
              have Iv2 := Iv'.hang (t := tg) hin ho' hA' hun (fun e => ((hW' v).mp e.2).2 rfl) hvk'
              k_steps
              exact ⟨_, _, _, _, W'.length, rfl, by k_asm, by k_asm, by omega, W', ws', nW + 1, _, _, _, rfl, L9, hmw9, hiw3, hnd', by omega, Iv2, by rw [lens_hang]; exact hl1, by with_unfolding_all rfl, by with_unfolding_all rfl, by with_unfolding_all rfl, by with_unfolding_all rfl, by with_unfolding_all rfl, by with_unfolding_all rfl⟩
            · rw [decide_eq_false hq]
              rw [if_neg hq] at L7
              k_steps
              exact ⟨_, _, _, _, W'.length, rfl, by k_asm, by k_asm, by omega, W', ws', nW + 1, _, _, _, rfl, L7, .tail _ hmw6, hiw3, hnd', by omega, Iv', hl1, by with_unfolding_all rfl, by with_unfolding_all rfl, by with_unfolding_all rfl, by with_unfolding_all rfl, by with_unfolding_all rfl, by with_unfolding_all rfl⟩
          · exact ⟨_, _, _, _, W'.length, rfl, by k_asm, by k_asm, by omega, W', ws', nW + 1, _, _, _, rfl, L5, hmw5, hiw3, hnd', by omega, Iv', hl1, by with_unfolding_all rfl, by with_unfolding_all rfl, by with_unfolding_all rfl, by with_unfolding_all rfl, by with_unfolding_all rfl, by with_unfolding_all rfl⟩
        · rw [decide_eq_false hin]
          k_steps
          exact ⟨_, _, _, _, W'.length, rfl, by k_asm, by k_asm, by omega, W', ws', nW + 1, _, _, _, rfl, L4, hmw4, hiw3, hnd', by omega, Iv', hl1, by with_unfolding_all rfl, by with_unfolding_all rfl, by with_unfolding_all rfl, by with_unfolding_all rfl, by with_unfolding_all rfl, by with_unfolding_all rfl⟩
      · -- the end
        unfold Hold
        obtain rfl : W = [] := List.length_eq_zero_iff.mp (by omega)
        obtain rfl := Iv.ends
        refine my_eq (by k_asm) L1.parts L1.due (by ke_room) ?_
        exact ⟨rfl, _, _, _, rfl, by k_asm⟩)
end Mine
end

theorem PySem.Challenge.cw_rh0061_01_holds : PySem.Challenge.rw_rh0061_01.Holds :=
  Mine.main
