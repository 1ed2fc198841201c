import PyProof.Rows.All
import Wide.All
import OpenK.AllK
import Wide.FinOn
import PySem.Challenge.RW_rh0105_01
open PySem PySem.W PyProof.Rows
set_option Elab.async false
set_option maxRecDepth 100000
set_option maxHeartbeats 8000000 in
open_top hd for PySem.Challenge.rw_rh0105_01
namespace Mine
section

abbrev P0 : Program := PySem.Challenge.rw_rh0105_01.row.prog
abbrev TopL (mean : ExcName → Option Value) (mg mb : Str → Option Value) (h : Heap) : Prop := Top hd.view_39 (looseW hd.view_39 [Str.ofString "VOID", Str.ofString "Store"]) mean mg mb h
set_option maxHeartbeats 8000000 in
theorem fill : ∀ (w : World) (h : Heap), (hd.heap_39 w.params).In h → PySem.Challenge.rw_rh0105_01.row.prog = PySem.Challenge.rw_rh0105_01.row.prog := by
  k_fill
  intros; rfl

section
variable {prog : Program} {w : World} {A : Around} {E : Value → Shared → Prop} {s : Shared} {h₀ : Heap} {L D : Addr} {m : Str → Option Value} {news news' : List (Addr × Obj)} {its : List Value} {n : Nat}

theorem m_isList {h : Heap} (N : News h₀ L h news) (hm : (D, listOf its.toArray n) ∈ news) : h.IsList D its.toArray := ⟨_, (N _ hm).1, rfl, n, rfl⟩

theorem m_len {Q : Value → Shared → Prop} (N : News h₀ L s.heap news) (hm : (D, listOf its.toArray n) ∈ news) (hb : its.length < 2 ^ 62)
    (h : Q (.int its.length (s.toks + 1)) { s with toks := s.toks + 1 + 1 }) : wpAny (model prog w) A (call (.builtin "len") [.ref D]) Q E s :=
  len_list (m_isList N hm) (by simp; omega) (by simpa using h)

theorem m_setL {v : Value} {i : Nat} (hi : i < its.length) : ki_setL its i v = some (its.set i v) := by
  induction its generalizing i with
  | nil => simp at hi
  | cons a r ih =>
    cases i with
    | zero => rfl
    | succ i =>
      have h' : i < r.length := by simpa using hi
      simp only [ki_setL, ih h', List.set_cons_succ]

theorem m_set {k : Int} {t : Tok} {v : Value} {Q : Unit → Shared → Prop} (F : Fr h₀ L s.heap m) (N : News h₀ L s.heap news) (h0 : 0 ≤ k) (hk : k < (its.length : Int)) (hb : its.length < 2 ^ 62)
    (U : Upd D (listOf its.toArray n) (listOf (its.set k.toNat v).toArray n) news news')
    (h : ∀ h', Fr h₀ L h' m → News h₀ L h' news' → Q () { s with heap := h' }) : wpAny (model prog w) A (setItem (.ref D) (.int k t) v) Q E s :=
  ki_set F N h0 (by omega) (by show ki_setL its k.toNat v = _; exact m_setL (by omega)) U h

theorem m_append {x : Value} {Q : Value → Shared → Prop} (F : Fr h₀ L s.heap m) (N : News h₀ L s.heap news) (hb : its.length < 10000)
    (U : Upd D (listOf its.toArray n) (listOf (its ++ [x]).toArray (n + 1)) news news')
    (h : ∀ h', Fr h₀ L h' m → News h₀ L h' news' → Q .none { s with heap := h' }) : wpAny (model prog w) A (call (.builtin "list.append") [.ref D, x]) Q E s :=
  append_K (its := its.toArray) (n := n) F N (by rw [List.push_toArray]; exact U) h (by rw [List.size_toArray, sizeLine_eq]; omega)

theorem m_item {value slice : Expr} {k : Int} {u : Tok} {x : Value} {Q : Value → Shared → Prop} (N : News h₀ L s.heap news) (hm : (D, listOf its.toArray n) ∈ news)
    (h0 : 0 ≤ k) (hb : its.length < 2 ^ 62) (hx : its[k.toNat]? = some x) (h : Q x s)
    (hs : subscripted slice false (.ref D) (.int k u) = operate [.ref D, .int k u] (getItem (.ref D) (.int k u)) := by with_unfolding_all rfl) (hg : ∀ r, letTemporaryGo value (.ref D) r = pure () := by intro _; with_unfolding_all rfl) :
    wpAny (model prog w) A (subscriptTail value slice (.ref D) (.int k u)) Q E s :=
  item_listL (m_isList N hm) h0 (by have := (List.getElem?_eq_some_iff.mp hx).1; omega) hx h hs hg
end

end
section


theorem getL_nil (x : Str) : getL x [] = some none := rfl
theorem getL_putL_same (x : Str) (h : Int) (t : Tok) (v : Value) : ∀ es : List DictEntry, getL x (putL x h (.str x t) v es) = some (some v)
  | [] => by simp [putL, getL, Value.isStr]
  | e :: r => by
    have ih := getL_putL_same x h t v r
    unfold putL
    by_cases q : e.key.isStr x = true
    · rw [if_pos q]; simp [getL, List.find?_cons, q]
    · rw [if_neg q]
      have q' : e.key.isStr x = false := by simpa using q
      unfold getL at ih ⊢
      rw [List.find?_cons, q']
      dsimp only
      cases hf : List.find? (fun x_1 => x_1.key.isStr x) (putL x h (.str x t) v r) with
      | some z => rw [hf] at ih; simpa using ih
      | none => rw [hf] at ih; exfalso; revert ih; dsimp only; split <;> intro z <;> cases z
theorem refKey_putL (x : Str) (h : Int) (t : Tok) (v : Value) : ∀ es : List DictEntry, (putL x h (.str x t) v es).any (·.refKey) = es.any (·.refKey)
  | [] => by simp [putL, DictEntry.refKey]
  | e :: r => by
    have ih := refKey_putL x h t v r
    unfold putL
    by_cases q : e.key.isStr x = true
    · rw [if_pos q]; simp [DictEntry.refKey]
    · rw [if_neg q]; simp [ih]
theorem find_putL {x y : Str} (hxy : y ≠ x) (h : Int) (t : Tok) (v : Value) : ∀ es : List DictEntry,
    ((putL x h (.str x t) v es).find? (·.key.isStr y)).map (·.val) = (es.find? (·.key.isStr y)).map (·.val)
  | [] => by
    have : (x == y) = false := by simpa using fun e : x = y => hxy e.symm
    simp [putL, Value.isStr, this]
  | e :: r => by
    have ih := find_putL hxy h t v r
    unfold putL
    by_cases q : e.key.isStr x = true
    · rw [if_pos q]
      have hy : e.key.isStr y = false := by
        cases hh : e.key.isStr y
        · rfl
        · exact absurd (Value.isStr_inj _ _ _ hh q) hxy
      simp [List.find?_cons, hy]
    · rw [if_neg q]
      cases hy : e.key.isStr y with
      | true => simp [List.find?_cons, hy]
      | false => simp only [List.find?_cons, hy]; exact ih
theorem getL_of_find (x : Str) (es : List DictEntry) : getL x es = match (es.find? (·.key.isStr x)).map (·.val) with | some v => some (some v) | none => if es.any (·.refKey) then none else some none := by
  unfold getL
  cases es.find? (·.key.isStr x) <;> rfl
theorem getL_putL_other {x y : Str} (hxy : y ≠ x) (h : Int) (t : Tok) (v : Value) (es : List DictEntry) : getL y (putL x h (.str x t) v es) = getL y es := by
  rw [getL_of_find, getL_of_find, find_putL hxy, refKey_putL]
theorem len_putL {x : Str} (h : Int) (k v : Value) : ∀ {es : List DictEntry} {o : Value}, getL x es = some (some o) → (putL x h k v es).length = es.length
  | [], _, e => by simp [getL] at e
  | e :: r, o, q => by
    unfold putL
    by_cases z : e.key.isStr x = true
    · rw [if_pos z]; rfl
    · rw [if_neg z]
      have z' : e.key.isStr x = false := by simpa using z
      have : getL x r = some (some o) := by
        rw [getL_of_find] at q ⊢
        rw [List.find?_cons, z'] at q
        dsimp only at q
        cases hf : (List.find? (fun x_1 => x_1.key.isStr x) r).map (·.val) with
        | some w => rw [hf] at q; exact q
        | none => rw [hf] at q; exfalso; revert q; dsimp only; split <;> intro z <;> cases z
      simp [len_putL h k v this]

structure AIs (ea : List DictEntry) (S CD : Nat) (cp e b b0 : Int) (t1 t2 t3 t4 : Tok) : Prop where
  code : getL (Str.ofString "code") ea = some (some (.ref CD))
  store : getL (Str.ofString "store") ea = some (some (.ref S))
  cp : getL (Str.ofString "cp") ea = some (some (.int cp t1))
  e : getL (Str.ofString "e") ea = some (some (.int e t2))
  b : getL (Str.ofString "b") ea = some (some (.int b t3))
  b0 : getL (Str.ofString "b0") ea = some (some (.int b0 t4))
  top : getL (Str.ofString "top") ea = some none
  set_choice : getL (Str.ofString "set_choice") ea = some none
  push_environment : getL (Str.ofString "push_environment") ea = some none
  push_choice : getL (Str.ofString "push_choice") ea = some none
  choice_part : getL (Str.ofString "choice_part") ea = some none
  cut_back : getL (Str.ofString "cut_back") ea = some none
  choices : getL (Str.ofString "choices") ea = some none
  len : ea.length ≤ 40
structure SIs (es : List DictEntry) (HL KL TR : Nat) (hb bb : Int) (t1 t2 t3 : Tok) : Prop where
  heap : getL (Str.ofString "heap") es = some (some (.ref HL))
  stack : getL (Str.ofString "stack") es = some (some (.ref KL))
  trail : getL (Str.ofString "trail") es = some (some (.ref TR))
  hb : getL (Str.ofString "hb") es = some (some (.int hb t1))
  bb : getL (Str.ofString "bb") es = some (some (.int bb t2))
  max_heap : getL (Str.ofString "max_heap") es = some (some (.int 100000 t3))
  stack_put : getL (Str.ofString "stack_put") es = some none
  mark : getL (Str.ofString "mark") es = some none
  push : getL (Str.ofString "push") es = some none
  new_var : getL (Str.ofString "new_var") es = some none
  bind : getL (Str.ofString "bind") es = some none
  len : es.length ≤ 40

section
variable {ea es : List DictEntry} {S CD HL KL TR : Nat} {cp e b b0 hb bb x : Int} {t1 t2 t3 t4 t u : Tok} {h : Int}
theorem AIs.set_cp (q : AIs ea S CD cp e b b0 t1 t2 t3 t4) : AIs (putL (Str.ofString "cp") h (.str (Str.ofString "cp") u) (.int x t) ea) S CD x e b b0 t t2 t3 t4 := by
  obtain ⟨a1, a2, a3, a4, a5, a6, a7, a8, a9, a10, a11, a12, a13, a14⟩ := q
  refine ⟨?_, ?_, getL_putL_same .., ?_, ?_, ?_, ?_, ?_, ?_, ?_, ?_, ?_, ?_, by rw [len_putL _ _ _ a3]; exact a14⟩ <;> (rw [getL_putL_other (by decide)]; assumption)
theorem AIs.set_e (q : AIs ea S CD cp e b b0 t1 t2 t3 t4) : AIs (putL (Str.ofString "e") h (.str (Str.ofString "e") u) (.int x t) ea) S CD cp x b b0 t1 t t3 t4 := by
  obtain ⟨a1, a2, a3, a4, a5, a6, a7, a8, a9, a10, a11, a12, a13, a14⟩ := q
  refine ⟨?_, ?_, ?_, getL_putL_same .., ?_, ?_, ?_, ?_, ?_, ?_, ?_, ?_, ?_, by rw [len_putL _ _ _ a4]; exact a14⟩ <;> (rw [getL_putL_other (by decide)]; assumption)
theorem AIs.set_b (q : AIs ea S CD cp e b b0 t1 t2 t3 t4) : AIs (putL (Str.ofString "b") h (.str (Str.ofString "b") u) (.int x t) ea) S CD cp e x b0 t1 t2 t t4 := by
  obtain ⟨a1, a2, a3, a4, a5, a6, a7, a8, a9, a10, a11, a12, a13, a14⟩ := q
  refine ⟨?_, ?_, ?_, ?_, getL_putL_same .., ?_, ?_, ?_, ?_, ?_, ?_, ?_, ?_, by rw [len_putL _ _ _ a5]; exact a14⟩ <;> (rw [getL_putL_other (by decide)]; assumption)
theorem AIs.set_b0 (q : AIs ea S CD cp e b b0 t1 t2 t3 t4) : AIs (putL (Str.ofString "b0") h (.str (Str.ofString "b0") u) (.int x t) ea) S CD cp e b x t1 t2 t3 t := by
  obtain ⟨a1, a2, a3, a4, a5, a6, a7, a8, a9, a10, a11, a12, a13, a14⟩ := q
  refine ⟨?_, ?_, ?_, ?_, ?_, getL_putL_same .., ?_, ?_, ?_, ?_, ?_, ?_, ?_, by rw [len_putL _ _ _ a6]; exact a14⟩ <;> (rw [getL_putL_other (by decide)]; assumption)
theorem SIs.set_hb (q : SIs es HL KL TR hb bb t1 t2 t3) : SIs (putL (Str.ofString "hb") h (.str (Str.ofString "hb") u) (.int x t) es) HL KL TR x bb t t2 t3 := by
  obtain ⟨a1, a2, a3, a4, a5, a6, a7, a8, a9, a10, a11, a12⟩ := q
  refine ⟨?_, ?_, ?_, getL_putL_same .., ?_, ?_, ?_, ?_, ?_, ?_, ?_, by rw [len_putL _ _ _ a4]; exact a12⟩ <;> (rw [getL_putL_other (by decide)]; assumption)
theorem SIs.set_bb (q : SIs es HL KL TR hb bb t1 t2 t3) : SIs (putL (Str.ofString "bb") h (.str (Str.ofString "bb") u) (.int x t) es) HL KL TR hb x t1 t t3 := by
  obtain ⟨a1, a2, a3, a4, a5, a6, a7, a8, a9, a10, a11, a12⟩ := q
  refine ⟨?_, ?_, ?_, ?_, getL_putL_same .., ?_, ?_, ?_, ?_, ?_, ?_, by rw [len_putL _ _ _ a5]; exact a12⟩ <;> (rw [getL_putL_other (by decide)]; assumption)
end

structure Off (AD SD HL KL TR : Nat) (tl : List (Addr × Obj)) : Prop where
  a : ∀ p ∈ tl, p.1 ≠ AD
  s : ∀ p ∈ tl, p.1 ≠ SD
  h : ∀ p ∈ tl, p.1 ≠ HL
  k : ∀ p ∈ tl, p.1 ≠ KL
  t : ∀ p ∈ tl, p.1 ≠ TR

end
section
abbrev codeTup (x y : Value) (i : Int) (t : Tok) : Obj := { cls := .type "tuple", data := .seq [x, y, .int i t].toArray 0 }
local macro_rules | `(tactic| walk_at "My enter") => `(tactic| ((case kA => exact rfl); (case kF => exact rfl); (case kK => assumption); (case k1 => k_asm); (case k2 => k_asm); (case k3 => k_asm); (case k4 => k_asm); (case k5 => k_asm); (case k6 => k_is); (case k7 => k_is); (case k8 => ktr_room); (case k9 => exact BindsTo.of_eq rfl); (case c5 => decide); (case kB => exact locs rfl); (case c2 => exact rfl); (case c3 => exact rfl); (case c4 => exact rfl); k_whole; intro g' L' h' FG' F' N' B' X' T'; (try dsimp only); (try k_fold)))
local macro_rules | `(tactic| walk_at "My A") => `(tactic| first | with_reducible assumption | exact AIs.set_e (by walk_at "My A") | exact AIs.set_b (by walk_at "My A") | exact AIs.set_cp (by walk_at "My A") | exact AIs.set_b0 (by walk_at "My A"))
local macro_rules | `(tactic| walk_at "My S") => `(tactic| first | with_reducible assumption | exact SIs.set_hb (by walk_at "My S") | exact SIs.set_bb (by walk_at "My S"))
local macro_rules | `(tactic| k_get) => `(tactic| first
  | exact SIs.stack (by walk_at "My S") | exact SIs.heap (by walk_at "My S") | exact SIs.trail (by walk_at "My S") | exact SIs.hb (by walk_at "My S") | exact SIs.bb (by walk_at "My S") | exact SIs.max_heap (by walk_at "My S")
  | exact SIs.stack_put (by walk_at "My S") | exact SIs.mark (by walk_at "My S") | exact SIs.push (by walk_at "My S") | exact SIs.new_var (by walk_at "My S") | exact SIs.bind (by walk_at "My S")
  | exact AIs.code (by walk_at "My A") | exact AIs.store (by walk_at "My A") | exact AIs.cp (by walk_at "My A") | exact AIs.e (by walk_at "My A") | exact AIs.b (by walk_at "My A") | exact AIs.b0 (by walk_at "My A")
  | exact AIs.top (by walk_at "My A") | exact AIs.set_choice (by walk_at "My A") | exact AIs.push_environment (by walk_at "My A") | exact AIs.push_choice (by walk_at "My A") | exact AIs.choice_part (by walk_at "My A") | exact AIs.cut_back (by walk_at "My A") | exact AIs.choices (by walk_at "My A"))
local macro_rules | `(tactic| walk_at "My mem") => `(tactic| first | exact List.Mem.head _ | (refine' List.Mem.tail _ ?_; walk_at "My mem") | assumption)
local macro_rules | `(tactic| k_all) => `(tactic| with_reducible assumption)
local macro_rules | `(tactic| walk_at "call builtin:len") => `(tactic| (k_here; (with_reducible show wpAny _ _ (call (Value.builtin "len") [Value.ref _]) _ _ _); k_dflt (refine' m_len ?k1 ?k2 ?k3 ?_; (case k1 => k_asm); (case k2 => walk_at "My mem"); (case k3 => omega); k_whole)))
local macro_rules | `(tactic| walk_at "setItem ref int") => `(tactic| (k_here; k_dflt (refine' m_set ?k1 ?k2 ?k3 ?k4 ?k5 ?k6 ?_; (case k1 => k_asm); (case k2 => k_asm); (case k6 => k_upd); (case k3 => omega); (case k4 => omega); (case k5 => omega); k_whole; intro h' F' N'; (try k_sweep))))
local macro_rules | `(tactic| walk_at "call builtin:list.append") => `(tactic| (k_here; k_dflt (refine' m_append ?k1 ?k2 ?k3 ?k4 ?_; (case k1 => k_asm); (case k2 => k_asm); (case k4 => k_upd); (case k3 => omega); k_whole; intro h' F' N'; (try k_sweep))))
local macro_rules | `(tactic| walk_at "WhlIf") => `(tactic| (first | (refine WhlIf.yes (decide_eq_true (by omega)) ?_) | (refine WhlIf.no (decide_eq_false (by omega)) ?_)))

@[irreducible] def putAt (ks : List Value) (i : Int) (v : Value) : List Value := if i.toNat < ks.length then ks.set i.toNat v else ks ++ [v]
theorem length_putAt (ks : List Value) (i : Int) (v : Value) : (putAt ks i v).length = max ks.length (min (i.toNat + 1) (ks.length + 1)) := by
  unfold putAt
  split
  · rw [List.length_set]; omega
  · rw [List.length_append, List.length_singleton]; omega
theorem put_lt {its : List Value} {i : Int} {v : Value} (h0 : 0 ≤ i) (h : i < its.length) : its.set i.toNat v = putAt its i v := by
  unfold putAt; rw [if_pos (by omega)]
theorem put_eq {its : List Value} {i : Int} {v : Value} (h : i = its.length) : its ++ [v] = putAt its i v := by
  unfold putAt; rw [if_neg (by omega)]
theorem putAt_congr {ks ks' : List Value} {i i' : Int} {v : Value} (h : ks = ks') (e : i = i') : putAt ks i v = putAt ks' i' v := by rw [h, e]
def putSeq : List Value → Int → List Value → List Value
  | ks, _, [] => ks
  | ks, p, v :: vs => putSeq (putAt ks p v) (p + 1) vs
theorem get_putAt {ks : List Value} {i : Int} {v : Value} (h0 : 0 ≤ i) (h : i ≤ ks.length) (j : Nat) : (putAt ks i v)[j]? = if j = i.toNat then some v else ks[j]? := by
  unfold putAt
  split
  · rw [List.getElem?_set]
    by_cases e : j = i.toNat
    · subst e; simp; omega
    · rw [if_neg e, if_neg (fun q => e q.symm)]
  · rw [List.getElem?_append]
    by_cases e : j = i.toNat
    · subst e
      rw [if_pos rfl, if_neg (by omega)]
      have : i.toNat - ks.length = 0 := by omega
      rw [this]; rfl
    · rw [if_neg e]
      split
      · rfl
      · have h1 : j - ks.length ≠ 0 := by omega
        rw [List.getElem?_eq_none (by simp; omega), List.getElem?_eq_none (by omega)]
theorem length_putSeq : ∀ (vs ks : List Value) (p : Int), 0 ≤ p → p ≤ ks.length → (putSeq ks p vs).length = max ks.length (p.toNat + vs.length)
  | [], ks, p, h0, h => by simp [putSeq]; omega
  | v :: vs, ks, p, h0, h => by
    unfold putSeq
    rw [length_putSeq vs _ _ (by omega) (by rw [length_putAt]; omega), length_putAt, List.length_cons]
    omega
theorem get_putSeq : ∀ (vs ks : List Value) (p : Int), 0 ≤ p → p ≤ ks.length → ∀ j : Nat, (putSeq ks p vs)[j]? = if p.toNat ≤ j ∧ j < p.toNat + vs.length then vs[j - p.toNat]? else ks[j]?
  | [], ks, p, h0, h, j => by unfold putSeq; rw [if_neg (by simp)]
  | v :: vs, ks, p, h0, h, j => by
    unfold putSeq
    rw [get_putSeq vs _ _ (by omega) (by rw [length_putAt]; omega), get_putAt h0 h]
    have e : (p + 1).toNat = p.toNat + 1 := by omega
    rw [e, List.length_cons]
    by_cases c1 : j = p.toNat
    · subst c1
      rw [if_neg (by omega), if_pos rfl, if_pos (by omega)]
      simp
    · rw [if_neg c1]
      by_cases c2 : p.toNat + 1 ≤ j ∧ j < p.toNat + 1 + vs.length
      · rw [if_pos c2, if_pos (by omega)]
        have : j - p.toNat = (j - (p.toNat + 1)) + 1 := by omega
        rw [this, List.getElem?_cons_succ]
      · rw [if_neg c2, if_neg (by omega)]

set_option maxHeartbeats 8000000 in
theorem c_put {w : World} {mean : ExcName → Option Value} {mg mb : Str → Option Value} {dp un : Nat} {gd : Option (List Code)} {cn : Str} {cs : Scope} {a : Addr} {ccd : Value} {cl : List (Str × Addr)} {outer : List Env} {A₀ : Around} {base h₀ : Heap} {L : Addr} {m : Str → Option Value} {s : Shared} {Q E : Value → Shared → Prop} {A AD S SD HL KL TR CD C1 C2 : Nat} {ea es : List DictEntry} {na ns kh kk kt kc : Nat} {hs ks ts : List Value} {tl : List (Addr × Obj)} {cp e b b0 hb bb : Int} {u1 u2 u3 u4 v1 v2 v3 : Tok} {c1a c1b c2a c2b : Value} {c1t c2t : Tok} {i : Int} {t : Tok} {v : Value}
   (B : Below A₀ base outer h₀) (F : Fr h₀ L s.heap m) (X : (hd.heap_39 w.params).In h₀) (N : News h₀ L s.heap ((A, instObj 541 AD) :: (AD, dictOf ea na) :: (S, instObj 381 SD) :: (SD, dictOf es ns) :: (HL, listOf (hs).toArray kh) :: (KL, listOf (ks).toArray kk) :: (TR, listOf (ts).toArray kt) :: (CD, listOf ([.ref C1, .ref C2] : List Value).toArray kc) :: (C1, codeTup c1a c1b 2 c1t) :: (C2, codeTup c2a c2b 1 c2t) :: tl)) (T : TopL mean mg mb h₀) (hk : cs.kind = .function) (hdp : dp + 3 < recursionLimit) (hun : un + 24 < cLine)
   (ord : C1 < C2 ∧ C2 < CD ∧ CD < AD ∧ AD < A ∧ A < SD ∧ SD < S ∧ S < HL ∧ HL < KL ∧ KL < TR) (off : Off AD SD HL KL TR tl) (hA : AIs ea S CD cp e b b0 u1 u2 u3 u4) (hS : SIs es HL KL TR hb bb v1 v2 v3) (hi0 : 0 ≤ i) (hi : i ≤ ks.length) (hlen : ks.length ≤ 1000)
   (hret : ∀ h' tk' kk' ks', ks' = putAt ks i v → ks.length ≤ ks'.length ∧ i + 1 ≤ ks'.length ∧ ks'.length ≤ ks.length + 1 → Fr h₀ L h' m → News h₀ L h' ((A, instObj 541 AD) :: (AD, dictOf ea na) :: (S, instObj 381 SD) :: (SD, dictOf es ns) :: (HL, listOf (hs).toArray kh) :: (KL, listOf (ks').toArray kk') :: (TR, listOf (ts).toArray kt) :: (CD, listOf ([.ref C1, .ref C2] : List Value).toArray kc) :: (C1, codeTup c1a c1b 2 c1t) :: (C2, codeTup c2a c2b 1 c2t) :: tl) → Q .none { s with heap := h', toks := tk' }) :
    wpAny (model PySem.Challenge.rw_rh0105_01.row.prog w) (ktrTop dp un gd cn cs L a ccd cl outer) (call (.ref 279) [.ref S, .int i t, v]) Q E s := by
  obtain ⟨o1, o2, o3, o4, o5, o6, o7, o8, o9⟩ := ord
  obtain ⟨offA, offS, offH, offK, offT⟩ := off
  refine wpAny_call ?_
  k_dflt (refine' code_def (binds := [(Str.ofString "self", .ref S), (Str.ofString "i", .int i t), (Str.ofString "value", v)]) ?k1 ?k2 ?k3 ?k4 ?k5 ?kA ?kF ?kK ?k6 ?k7 ?k8 ?k9 ?kB ?_ ?c2 ?c3 ?c4 ?c5; walk_at "My enter")
  k_steps
  · rename News _ _ _ _ => N9
    rw [put_lt hi0 (by assumption)] at N9
    exact hret _ _ _ _ rfl (by rw [length_putAt]; omega) (by assumption) N9
  · rename News _ _ _ _ => N9
    rw [put_eq (i := i) (by omega)] at N9
    exact hret _ _ _ _ rfl (by rw [length_putAt]; omega) (by assumption) N9



theorem q_int {Q : Value → Shared → Prop} {x y : Int} {t : Tok} {S : Shared} (e : y = x) (h : Q (.int x t) S) : Q (.int y t) S := e ▸ h
local macro_rules | `(tactic| walk_at "My fit") => `(tactic| first | omega | ((try simp only [List.length_cons, List.length_nil, List.length_append, List.length_map]); omega))
local macro_rules | `(tactic| walk_at "My at") => `(tactic| first | with_reducible assumption | rfl | (refine' (show 0 ≤ (_ : Int) → (_ : Option Value) = some _ from by with_reducible assumption) ?_; omega))
theorem m_itemV {prog : Program} {w : World} {A : Around} {E : Value → Shared → Prop} {s : Shared} {h₀ : Heap} {L D : Addr} {news : List (Addr × Obj)} {its : List Value} {n : Nat} {value slice : Expr} {k : Int} {u : Tok} {x : Value} {Q : Value → Shared → Prop} (N : News h₀ L s.heap news) (hm : (D, listOf its.toArray n) ∈ news)
    (h0 : 0 ≤ k) (hb : its.length < 2 ^ 62) (hx : its[k.toNat]? = some x) (h : Q x s)
    (hs : subscripted slice false (.ref D) (.int k u) = operate [.ref D, .int k u] (getItem (.ref D) (.int k u)) := by with_unfolding_all rfl) :
    wpAny (model prog w) A (subscriptTail value slice (.ref D) (.int k u)) Q E s :=
  kba_turn (value' := PySem.Expr.Name (PySem.Str.ofString "_") ⟨0, 0, 0, 0⟩) (fun _ => rfl) (m_item N hm h0 hb hx h hs (fun _ => rfl))
theorem m_tupV {prog : Program} {w : World} {A : Around} {E : Value → Shared → Prop} {s : Shared} {h₀ : Heap} {L D : Addr} {news : List (Addr × Obj)} {its : List Value} {n : Nat} {value slice : Expr} {k : Int} {u : Tok} {x : Value} {Q : Value → Shared → Prop} (N : News h₀ L s.heap news) (hm : (D, ({ cls := .type "tuple", data := .seq its.toArray n } : Obj)) ∈ news)
    (h0 : 0 ≤ k) (hb : its.length < 2 ^ 62) (hx : its[k.toNat]? = some x) (h : Q x s)
    (hs : subscripted slice false (.ref D) (.int k u) = operate [.ref D, .int k u] (getItem (.ref D) (.int k u)) := by with_unfolding_all rfl) :
    wpAny (model prog w) A (subscriptTail value slice (.ref D) (.int k u)) Q E s := by
  have hlt := (List.getElem?_eq_some_iff.mp hx).1
  refine kba_turn (value' := PySem.Expr.Name (PySem.Str.ofString "_") ⟨0, 0, 0, 0⟩) (fun _ => rfl) (item_tupleL (j := k.toNat) (News.isTup N hm) (by omega) (by omega) ?_ hx h hs (fun _ => rfl))
  have h1 : ¬ k < 0 := by omega
  have h2 : k < (its.length : Int) := by omega
  simp [seqIndex?, h1, h0, h2]
local macro_rules | `(tactic| walk_at "subscriptTail") => `(tactic| (k_here; (with_reducible show wpAny _ _ (subscriptTail _ _ (Value.ref _) (Value.int _ _)) _ _ _); k_dflt (first
  | (refine' m_itemV ?k1 ?k2 ?k3 ?k4 ?k5 ?_; (case k1 => k_asm); (case k2 => walk_at "My mem"); (case k3 => omega); (case k4 => walk_at "My fit"); (case k5 => walk_at "My at"); k_whole)
  | (refine' m_tupV ?k1 ?k2 ?k3 ?k4 ?k5 ?_; (case k1 => k_asm); (case k2 => walk_at "My mem"); (case k3 => omega); (case k4 => walk_at "My fit"); (case k5 => walk_at "My at"); k_whole))))

theorem m_setattr {w : World} {A : Around} {E : Value → Shared → Prop} {s : Shared} {K : Frag} {x C dx L : Addr} {h₀ : Heap} {m : Str → Option Value} {news : List (Addr × Obj)} {news' : Tok → List (Addr × Obj)} {ox : Obj} {es : List DictEntry} {n : Nat} {name : Str} {v old : Value}  {prog : Program}
    {Q : Unit → Shared → Prop} (F : Fr h₀ L s.heap m) (X₀ : K.In h₀) (N : News h₀ L s.heap news) (I : InstAt s.heap x ox C (some (dictOf es n))) (hd : ox.dict = some dx)
    (hs : findIn K (.ref C) "__setattr__" = some (some (.builtin "object.__setattr__"))) (hp : plainOver K C = true) (ht : takerIn K C name = some none) (hh : hasDictIn K C = true) (hl : getL name es = some (some old))
    (U : ∀ t, Upd dx (dictOf es n) (dictOf (putL name (PyData.keyHash w.params name) (.str name t) v es) n) news (news' t)) (hz : es.length ≤ 40)
    (h : ∀ t tk h', Fr h₀ L h' m → News h₀ L h' (news' t) → Q () { s with heap := h', toks := tk }) :
    wpAny (model prog w) A (setAttr (.ref x) name v) Q E s := by
  have hn : putN name es n = n := by
    unfold putN
    have : es.any (·.key.isStr name) = true := by
      rw [getL_of_find] at hl
      cases hf : List.find? (fun (x : DictEntry) => x.key.isStr name) es with
      | none => rw [hf] at hl; exfalso; revert hl; dsimp only [Option.map_none]; split <;> intro z <;> cases z
      | some e => exact List.any_eq_true.mpr ⟨e, List.mem_of_find?_eq_some hf, List.find?_some (p := fun (x : DictEntry) => x.key.isStr name) hf⟩
    rw [if_pos this]
  exact set_dict F X₀ N I hd hs hp ht hh (by rw [hl]; rfl) (by rw [hn]) (U _) (by rw [len_putL _ _ _ hl]; omega) (h _ _)
local macro_rules | `(tactic| walk_at "setAttr ref") => `(tactic| (k_here; k_dflt (refine' m_setattr ?k1 ?k2 ?k3 ?k4 ?k5 ?k6 ?k7 ?k8 ?k9 ?k10 ?k11 ?k12 ?_; (case k1 => k_asm); (case k2 => k_asm); (case k3 => k_asm); (case k4 => k_inst); (case k5 => exact rfl); (case k6 => k_is); (case k7 => k_is); (case k8 => k_is); (case k9 => k_is); (case k10 => k_get); (case k11 => (intro t'; k_upd)); (case k12 => first | exact AIs.len (by walk_at "My A") | exact SIs.len (by walk_at "My S")); k_whole; intro t' tk' h' F' N'; (try dsimp only at N'); (try dsimp only); (try k_sweep))))

theorem m_getattr {w : World} {A : Around} {E : Value → Shared → Prop} {s : Shared} {K : Frag} {x C L : Addr} {h₀ : Heap} {m : Str → Option Value} {ox : Obj} {es : List DictEntry} {n : Nat} {name : Str} {v : Value} {prog : Program}
    {expr : Bool} {Q : Value → Shared → Prop} {attr : Option Value} (F : Fr h₀ L s.heap m) (X₀ : K.In h₀) (I : InstAt s.heap x ox C (some (dictOf es n))) (hg : plainGet K C name = true) (hh : hasDictIn K C = true)
    (ha : findIn K (.ref C) name = some attr) (hn : noGet K attr = true) (hl : getL name es = some (some v)) (hv : handedIn v = true) (h : ∀ tk, Q v { s with toks := tk }) :
    wpAny (model prog w) A (getAttr (.ref x) name expr) Q E s := get_own F X₀ I hg hh ha hn hl hv (h _)
local macro_rules | `(tactic| walk_at "getAttr ref") => `(tactic| (k_here; k_dflt (refine' m_getattr ?k1 ?k2 ?k3 ?k4 ?k5 ?k6 ?k7 ?k8 ?k9 ?_; (case k1 => k_asm); (case k2 => k_asm); (case k3 => k_inst); (case k4 => k_is); (case k5 => k_is); (case k6 => k_is); (case k7 => k_is); (case k8 => k_get); (case k9 => k_handed); k_whole; intro tk'; (try dsimp only))))

theorem news_sub {h₀ h : Heap} {L : Addr} {l l' : List (Addr × Obj)} (N : News h₀ L h l) (hs : ∀ p ∈ l', p ∈ l) : News h₀ L h l' := fun p hp => N p (hs p hp)
set_option linter.unusedSimpArgs false
theorem rot1 {h₀ h : Heap} {L : Addr} {x1 c1 c2 c3 c4 c5 c6 c7 c8 c9 c10 : Addr × Obj} {tl : List (Addr × Obj)} (N : News h₀ L h (x1 :: c1 :: c2 :: c3 :: c4 :: c5 :: c6 :: c7 :: c8 :: c9 :: c10 :: tl)) : News h₀ L h (c1 :: c2 :: c3 :: c4 :: c5 :: c6 :: c7 :: c8 :: c9 :: c10 :: x1 :: tl) := by
  intro p hp
  refine N p ?_
  simp only [List.mem_cons] at hp ⊢
  rcases hp with hp | hp | hp | hp | hp | hp | hp | hp | hp | hp | hp | hp
  all_goals simp only [hp, true_or, or_true]
theorem rot2 {h₀ h : Heap} {L : Addr} {x1 x2 c1 c2 c3 c4 c5 c6 c7 c8 c9 c10 : Addr × Obj} {tl : List (Addr × Obj)} (N : News h₀ L h (x1 :: x2 :: c1 :: c2 :: c3 :: c4 :: c5 :: c6 :: c7 :: c8 :: c9 :: c10 :: tl)) : News h₀ L h (c1 :: c2 :: c3 :: c4 :: c5 :: c6 :: c7 :: c8 :: c9 :: c10 :: x1 :: x2 :: tl) := by
  intro p hp
  refine N p ?_
  simp only [List.mem_cons] at hp ⊢
  rcases hp with hp | hp | hp | hp | hp | hp | hp | hp | hp | hp | hp | hp | hp
  all_goals simp only [hp, true_or, or_true]
theorem rot3 {h₀ h : Heap} {L : Addr} {x1 x2 x3 c1 c2 c3 c4 c5 c6 c7 c8 c9 c10 : Addr × Obj} {tl : List (Addr × Obj)} (N : News h₀ L h (x1 :: x2 :: x3 :: c1 :: c2 :: c3 :: c4 :: c5 :: c6 :: c7 :: c8 :: c9 :: c10 :: tl)) : News h₀ L h (c1 :: c2 :: c3 :: c4 :: c5 :: c6 :: c7 :: c8 :: c9 :: c10 :: x1 :: x2 :: x3 :: tl) := by
  intro p hp
  refine N p ?_
  simp only [List.mem_cons] at hp ⊢
  rcases hp with hp | hp | hp | hp | hp | hp | hp | hp | hp | hp | hp | hp | hp | hp
  all_goals simp only [hp, true_or, or_true]
theorem drop1 {h₀ h : Heap} {L : Addr} {x1 c1 c2 c3 c4 c5 c6 c7 c8 c9 c10 : Addr × Obj} {tl : List (Addr × Obj)} (N : News h₀ L h (c1 :: c2 :: c3 :: c4 :: c5 :: c6 :: c7 :: c8 :: c9 :: c10 :: x1 :: tl)) : News h₀ L h (c1 :: c2 :: c3 :: c4 :: c5 :: c6 :: c7 :: c8 :: c9 :: c10 :: tl) := by
  intro p hp
  refine N p ?_
  simp only [List.mem_cons] at hp ⊢
  rcases hp with hp | hp | hp | hp | hp | hp | hp | hp | hp | hp | hp
  all_goals simp only [hp, true_or, or_true]
local macro_rules | `(tactic| walk_at "My call") => `(tactic| ((case B => k_asm); (case F => k_asm); (case X => k_asm); (case N => first | k_asm | exact rot1 (by k_asm) | exact rot2 (by k_asm) | exact rot3 (by k_asm)); (case T => k_asm); (case hk => first | exact rfl | assumption); (case ord => omega); (case off => exact ⟨by k_all, by k_all, by k_all, by k_all, by k_all⟩); (case hA => walk_at "My A"); (case hS => walk_at "My S"); (case hdp => ktr_room); (case hun => ktr_units)))

set_option maxHeartbeats 8000000 in
theorem c_mark {w : World} {mean : ExcName → Option Value} {mg mb : Str → Option Value} {dp un : Nat} {gd : Option (List Code)} {cn : Str} {cs : Scope} {a : Addr} {ccd : Value} {cl : List (Str × Addr)} {outer : List Env} {A₀ : Around} {base h₀ : Heap} {L : Addr} {m : Str → Option Value} {s : Shared} {Q E : Value → Shared → Prop} {A AD S SD HL KL TR CD C1 C2 : Nat} {ea es : List DictEntry} {na ns kh kk kt kc : Nat} {hs ks ts : List Value} {tl : List (Addr × Obj)} {cp e b b0 hb bb : Int} {u1 u2 u3 u4 v1 v2 v3 : Tok} {c1a c1b c2a c2b : Value} {c1t c2t : Tok} 
   (B : Below A₀ base outer h₀) (F : Fr h₀ L s.heap m) (X : (hd.heap_39 w.params).In h₀) (N : News h₀ L s.heap ((A, instObj 541 AD) :: (AD, dictOf ea na) :: (S, instObj 381 SD) :: (SD, dictOf es ns) :: (HL, listOf (hs).toArray kh) :: (KL, listOf (ks).toArray kk) :: (TR, listOf (ts).toArray kt) :: (CD, listOf ([.ref C1, .ref C2] : List Value).toArray kc) :: (C1, codeTup c1a c1b 2 c1t) :: (C2, codeTup c2a c2b 1 c2t) :: tl)) (T : TopL mean mg mb h₀) (hk : cs.kind = .function) (hdp : dp + 3 < recursionLimit) (hun : un + 24 < cLine)
   (ord : C1 < C2 ∧ C2 < CD ∧ CD < AD ∧ AD < A ∧ A < SD ∧ SD < S ∧ S < HL ∧ HL < KL ∧ KL < TR) (off : Off AD SD HL KL TR tl) (hA : AIs ea S CD cp e b b0 u1 u2 u3 u4) (hS : SIs es HL KL TR hb bb v1 v2 v3) (htr : ts.length ≤ 1000)
   (hret : ∀ h' tk' t', Fr h₀ L h' m → News h₀ L h' ((A, instObj 541 AD) :: (AD, dictOf ea na) :: (S, instObj 381 SD) :: (SD, dictOf es ns) :: (HL, listOf (hs).toArray kh) :: (KL, listOf (ks).toArray kk) :: (TR, listOf (ts).toArray kt) :: (CD, listOf ([.ref C1, .ref C2] : List Value).toArray kc) :: (C1, codeTup c1a c1b 2 c1t) :: (C2, codeTup c2a c2b 1 c2t) :: tl) → Q (.int (ts.length : Int) t') { s with heap := h', toks := tk' }) :
    wpAny (model PySem.Challenge.rw_rh0105_01.row.prog w) (ktrTop dp un gd cn cs L a ccd cl outer) (call (.ref 265) [.ref S]) Q E s := by
  obtain ⟨o1, o2, o3, o4, o5, o6, o7, o8, o9⟩ := ord
  obtain ⟨offA, offS, offH, offK, offT⟩ := off
  refine wpAny_call ?_
  k_dflt (refine' code_def (binds := [(Str.ofString "self", .ref S)]) ?k1 ?k2 ?k3 ?k4 ?k5 ?kA ?kF ?kK ?k6 ?k7 ?k8 ?k9 ?kB ?_ ?c2 ?c3 ?c4 ?c5; walk_at "My enter")
  k_steps
  all_goals (rename News _ _ _ _ => N9; exact hret _ _ _ (by assumption) N9)


@[irreducible] def topV (e b cp cnt : Int) : Int := if e > b then e + 2 + (3 - cp) else if 0 ≤ b then b + cnt + 8 else 0
set_option maxHeartbeats 8000000 in
theorem c_top {w : World} {mean : ExcName → Option Value} {mg mb : Str → Option Value} {dp un : Nat} {gd : Option (List Code)} {cn : Str} {cs : Scope} {a : Addr} {ccd : Value} {cl : List (Str × Addr)} {outer : List Env} {A₀ : Around} {base h₀ : Heap} {L : Addr} {m : Str → Option Value} {s : Shared} {Q E : Value → Shared → Prop} {A AD S SD HL KL TR CD C1 C2 : Nat} {ea es : List DictEntry} {na ns kh kk kt kc : Nat} {hs ks ts : List Value} {tl : List (Addr × Obj)} {cp e b b0 hb bb : Int} {u1 u2 u3 u4 v1 v2 v3 : Tok} {c1a c1b c2a c2b : Value} {c1t c2t : Tok} {cnt pl : Int} {ct : Tok}
   (B : Below A₀ base outer h₀) (F : Fr h₀ L s.heap m) (X : (hd.heap_39 w.params).In h₀) (N : News h₀ L s.heap ((A, instObj 541 AD) :: (AD, dictOf ea na) :: (S, instObj 381 SD) :: (SD, dictOf es ns) :: (HL, listOf (hs).toArray kh) :: (KL, listOf (ks).toArray kk) :: (TR, listOf (ts).toArray kt) :: (CD, listOf ([.ref C1, .ref C2] : List Value).toArray kc) :: (C1, codeTup c1a c1b 2 c1t) :: (C2, codeTup c2a c2b 1 c2t) :: tl)) (T : TopL mean mg mb h₀) (hk : cs.kind = .function) (hdp : dp + 3 < recursionLimit) (hun : un + 24 < cLine)
   (ord : C1 < C2 ∧ C2 < CD ∧ CD < AD ∧ AD < A ∧ A < SD ∧ SD < S ∧ S < HL ∧ HL < KL ∧ KL < TR) (off : Off AD SD HL KL TR tl) (hA : AIs ea S CD cp e b b0 u1 u2 u3 u4) (hS : SIs es HL KL TR hb bb v1 v2 v3) (hpl : topV e b cp cnt = pl) (hcp : cp = 1 ∨ cp = 2) (hcnt : 0 ≤ b → ks[b.toNat]? = some (.int cnt ct)) (hlen : ks.length ≤ 1000) (he : -1 ≤ e ∧ e ≤ 1000) (hb1 : -1 ≤ b ∧ b ≤ 1000) (hc1 : 0 ≤ b → 0 ≤ cnt ∧ cnt ≤ 2)
   (hret : ∀ h' tk' t', Fr h₀ L h' m → News h₀ L h' ((A, instObj 541 AD) :: (AD, dictOf ea na) :: (S, instObj 381 SD) :: (SD, dictOf es ns) :: (HL, listOf (hs).toArray kh) :: (KL, listOf (ks).toArray kk) :: (TR, listOf (ts).toArray kt) :: (CD, listOf ([.ref C1, .ref C2] : List Value).toArray kc) :: (C1, codeTup c1a c1b 2 c1t) :: (C2, codeTup c2a c2b 1 c2t) :: tl) → Q (.int pl t') { s with heap := h', toks := tk' }) :
    wpAny (model PySem.Challenge.rw_rh0105_01.row.prog w) (ktrTop dp un gd cn cs L a ccd cl outer) (call (.ref 454) [.ref A]) Q E s := by
  obtain ⟨o1, o2, o3, o4, o5, o6, o7, o8, o9⟩ := ord
  obtain ⟨offA, offS, offH, offK, offT⟩ := off
  refine wpAny_call ?_
  k_dflt (refine' code_def (binds := [(Str.ofString "self", .ref A)]) ?k1 ?k2 ?k3 ?k4 ?k5 ?kA ?kF ?kK ?k6 ?k7 ?k8 ?k9 ?kB ?_ ?c2 ?c3 ?c4 ?c5; walk_at "My enter")
  subst hpl
  rcases hcp with rfl | rfl
  all_goals k_steps
  all_goals ((rename News _ _ _ _ => N9); (refine q_int ?_ (hret _ _ _ (by assumption) N9)); unfold topV; (repeat' split) <;> omega)



set_option maxHeartbeats 8000000 in
theorem c_set {w : World} {mean : ExcName → Option Value} {mg mb : Str → Option Value} {dp un : Nat} {gd : Option (List Code)} {cn : Str} {cs : Scope} {a : Addr} {ccd : Value} {cl : List (Str × Addr)} {outer : List Env} {A₀ : Around} {base h₀ : Heap} {L : Addr} {m : Str → Option Value} {s : Shared} {Q E : Value → Shared → Prop} {A AD S SD HL KL TR CD C1 C2 : Nat} {ea es : List DictEntry} {na ns kh kk kt kc : Nat} {hs ks ts : List Value} {tl : List (Addr × Obj)} {cp e b b0 hb bb : Int} {u1 u2 u3 u4 v1 v2 v3 : Tok} {c1a c1b c2a c2b : Value} {c1t c2t : Tok} {cnt x hx : Int} {ct xt ht : Tok}
   (B : Below A₀ base outer h₀) (F : Fr h₀ L s.heap m) (X : (hd.heap_39 w.params).In h₀) (N : News h₀ L s.heap ((A, instObj 541 AD) :: (AD, dictOf ea na) :: (S, instObj 381 SD) :: (SD, dictOf es ns) :: (HL, listOf (hs).toArray kh) :: (KL, listOf (ks).toArray kk) :: (TR, listOf (ts).toArray kt) :: (CD, listOf ([.ref C1, .ref C2] : List Value).toArray kc) :: (C1, codeTup c1a c1b 2 c1t) :: (C2, codeTup c2a c2b 1 c2t) :: tl)) (T : TopL mean mg mb h₀) (hk : cs.kind = .function) (hdp : dp + 3 < recursionLimit) (hun : un + 24 < cLine)
   (ord : C1 < C2 ∧ C2 < CD ∧ CD < AD ∧ AD < A ∧ A < SD ∧ SD < S ∧ S < HL ∧ HL < KL ∧ KL < TR) (off : Off AD SD HL KL TR tl) (hA : AIs ea S CD cp e b b0 u1 u2 u3 u4) (hS : SIs es HL KL TR hb bb v1 v2 v3) (hcnt : 0 ≤ x → ks[x.toNat]? = some (.int cnt ct)) (hv : 0 ≤ x → ks[(x + cnt + 6).toNat]? = some (.int hx ht)) (hlen : ks.length ≤ 1000) (hb1 : x ≤ 1000) (hc1 : 0 ≤ x → 0 ≤ cnt ∧ cnt ≤ 2)
   (hret : ∀ h' tk' ea' es' hb' bb' t1 t2 t3, Fr h₀ L h' m → News h₀ L h' ((A, instObj 541 AD) :: (AD, dictOf ea' na) :: (S, instObj 381 SD) :: (SD, dictOf es' ns) :: (HL, listOf (hs).toArray kh) :: (KL, listOf (ks).toArray kk) :: (TR, listOf (ts).toArray kt) :: (CD, listOf ([.ref C1, .ref C2] : List Value).toArray kc) :: (C1, codeTup c1a c1b 2 c1t) :: (C2, codeTup c2a c2b 1 c2t) :: tl) → AIs ea' S CD cp e x b0 u1 u2 t1 u4 → SIs es' HL KL TR hb' bb' t2 t3 v3 → (x < 0 ∧ hb' = 0 ∧ bb' = 0 ∨ 0 ≤ x ∧ hb' = hx ∧ bb' = x) → Q .none { s with heap := h', toks := tk' }) :
    wpAny (model PySem.Challenge.rw_rh0105_01.row.prog w) (ktrTop dp un gd cn cs L a ccd cl outer) (call (.ref 482) [.ref A, .int x xt]) Q E s := by
  obtain ⟨o1, o2, o3, o4, o5, o6, o7, o8, o9⟩ := ord
  obtain ⟨offA, offS, offH, offK, offT⟩ := off
  refine wpAny_call ?_
  k_dflt (refine' code_def (binds := [(Str.ofString "self", .ref A), (Str.ofString "b", .int x xt)]) ?k1 ?k2 ?k3 ?k4 ?k5 ?kA ?kF ?kK ?k6 ?k7 ?k8 ?k9 ?kB ?_ ?c2 ?c3 ?c4 ?c5; walk_at "My enter")
  k_steps
  all_goals ((rename News _ _ _ _ => N9); (exact hret _ _ _ _ _ _ _ _ _ (by assumption) N9 (by walk_at "My A") (by walk_at "My S") (by omega)))



local macro_rules | `(tactic| walk_at "call ref") => `(tactic| (k_here; (with_reducible show wpAny _ _ (call (Value.ref 482) _) _ _ _); k_dflt (refine' c_set (B := ?B) (F := ?F) (X := ?X) (N := ?N) (T := ?T) (hk := ?hk) (hdp := ?hdp) (hun := ?hun) (ord := ?ord) (off := ?off) (hA := ?hA) (hS := ?hS) (hcnt := ?z1) (hv := ?z2) (hlen := ?z3) (hb1 := ?z4) (hc1 := ?z5) ?_; walk_at "My call"; (case z1 => first | with_reducible assumption | walk_at "My get"); (case z2 => first | with_reducible assumption | walk_at "My get"); (case z3 => omega); (case z4 => omega); (case z5 => first | with_reducible assumption | omega); intro h' tk' ea' es' hb' bb' t1' t2' t3' F' N' hA' hS' e'; (try dsimp only))))

set_option maxHeartbeats 8000000 in
theorem c_cut {w : World} {mean : ExcName → Option Value} {mg mb : Str → Option Value} {dp un : Nat} {gd : Option (List Code)} {cn : Str} {cs : Scope} {a : Addr} {ccd : Value} {cl : List (Str × Addr)} {outer : List Env} {A₀ : Around} {base h₀ : Heap} {L : Addr} {m : Str → Option Value} {s : Shared} {Q E : Value → Shared → Prop} {A AD S SD HL KL TR CD C1 C2 : Nat} {ea es : List DictEntry} {na ns kh kk kt kc : Nat} {hs ks ts : List Value} {tl : List (Addr × Obj)} {cp e b b0 hb bb : Int} {u1 u2 u3 u4 v1 v2 v3 : Tok} {c1a c1b c2a c2b : Value} {c1t c2t : Tok} {cnt x hx : Int} {ct xt ht : Tok}
   (B : Below A₀ base outer h₀) (F : Fr h₀ L s.heap m) (X : (hd.heap_39 w.params).In h₀) (N : News h₀ L s.heap ((A, instObj 541 AD) :: (AD, dictOf ea na) :: (S, instObj 381 SD) :: (SD, dictOf es ns) :: (HL, listOf (hs).toArray kh) :: (KL, listOf (ks).toArray kk) :: (TR, listOf (ts).toArray kt) :: (CD, listOf ([.ref C1, .ref C2] : List Value).toArray kc) :: (C1, codeTup c1a c1b 2 c1t) :: (C2, codeTup c2a c2b 1 c2t) :: tl)) (T : TopL mean mg mb h₀) (hk : cs.kind = .function) (hdp : dp + 4 < recursionLimit) (hun : un + 32 < cLine)
   (ord : C1 < C2 ∧ C2 < CD ∧ CD < AD ∧ AD < A ∧ A < SD ∧ SD < S ∧ S < HL ∧ HL < KL ∧ KL < TR) (off : Off AD SD HL KL TR tl) (hA : AIs ea S CD cp e b b0 u1 u2 u3 u4) (hS : SIs es HL KL TR hb bb v1 v2 v3) (hcnt : 0 ≤ x → ks[x.toNat]? = some (.int cnt ct)) (hv : 0 ≤ x → ks[(x + cnt + 6).toNat]? = some (.int hx ht)) (hlen : ks.length ≤ 1000) (hb1 : x ≤ 1000) (hc1 : 0 ≤ x → 0 ≤ cnt ∧ cnt ≤ 2)
   (hret : ∀ h' tk' ea' es' b' hb' bb' t1 t2 t3, Fr h₀ L h' m → News h₀ L h' ((A, instObj 541 AD) :: (AD, dictOf ea' na) :: (S, instObj 381 SD) :: (SD, dictOf es' ns) :: (HL, listOf (hs).toArray kh) :: (KL, listOf (ks).toArray kk) :: (TR, listOf (ts).toArray kt) :: (CD, listOf ([.ref C1, .ref C2] : List Value).toArray kc) :: (C1, codeTup c1a c1b 2 c1t) :: (C2, codeTup c2a c2b 1 c2t) :: tl) → AIs ea' S CD cp e b' b0 u1 u2 t1 u4 → SIs es' HL KL TR hb' bb' t2 t3 v3 → (b ≤ x ∧ b' = b ∧ hb' = hb ∧ bb' = bb ∨ x < b ∧ b' = x ∧ (x < 0 ∧ hb' = 0 ∧ bb' = 0 ∨ 0 ≤ x ∧ hb' = hx ∧ bb' = x)) → Q .none { s with heap := h', toks := tk' }) :
    wpAny (model PySem.Challenge.rw_rh0105_01.row.prog w) (ktrTop dp un gd cn cs L a ccd cl outer) (call (.ref 524) [.ref A, .int x xt]) Q E s := by
  obtain ⟨o1, o2, o3, o4, o5, o6, o7, o8, o9⟩ := ord
  obtain ⟨offA, offS, offH, offK, offT⟩ := off
  refine wpAny_call ?_
  k_dflt (refine' code_def (binds := [(Str.ofString "self", .ref A), (Str.ofString "b", .int x xt)]) ?k1 ?k2 ?k3 ?k4 ?k5 ?kA ?kF ?kK ?k6 ?k7 ?k8 ?k9 ?kB ?_ ?c2 ?c3 ?c4 ?c5; walk_at "My enter")
  k_steps
  all_goals ((rename News _ _ _ _ => N9); (exact hret _ _ _ _ _ _ _ _ _ _ (by assumption) N9 (by walk_at "My A") (by walk_at "My S") (by omega)))



set_option maxHeartbeats 8000000 in
theorem c_push {w : World} {mean : ExcName → Option Value} {mg mb : Str → Option Value} {dp un : Nat} {gd : Option (List Code)} {cn : Str} {cs : Scope} {a : Addr} {ccd : Value} {cl : List (Str × Addr)} {outer : List Env} {A₀ : Around} {base h₀ : Heap} {L : Addr} {m : Str → Option Value} {s : Shared} {Q E : Value → Shared → Prop} {A AD S SD HL KL TR CD C1 C2 : Nat} {ea es : List DictEntry} {na ns kh kk kt kc : Nat} {hs ks ts : List Value} {tl : List (Addr × Obj)} {cp e b b0 hb bb : Int} {u1 u2 u3 u4 v1 v2 v3 : Tok} {c1a c1b c2a c2b : Value} {c1t c2t : Tok} {v : Value}
   (B : Below A₀ base outer h₀) (F : Fr h₀ L s.heap m) (X : (hd.heap_39 w.params).In h₀) (N : News h₀ L s.heap ((A, instObj 541 AD) :: (AD, dictOf ea na) :: (S, instObj 381 SD) :: (SD, dictOf es ns) :: (HL, listOf (hs).toArray kh) :: (KL, listOf (ks).toArray kk) :: (TR, listOf (ts).toArray kt) :: (CD, listOf ([.ref C1, .ref C2] : List Value).toArray kc) :: (C1, codeTup c1a c1b 2 c1t) :: (C2, codeTup c2a c2b 1 c2t) :: tl)) (T : TopL mean mg mb h₀) (hk : cs.kind = .function) (hdp : dp + 3 < recursionLimit) (hun : un + 24 < cLine)
   (ord : C1 < C2 ∧ C2 < CD ∧ CD < AD ∧ AD < A ∧ A < SD ∧ SD < S ∧ S < HL ∧ HL < KL ∧ KL < TR) (off : Off AD SD HL KL TR tl) (hA : AIs ea S CD cp e b b0 u1 u2 u3 u4) (hS : SIs es HL KL TR hb bb v1 v2 v3) (hlen : hs.length ≤ 1000)
   (hret : ∀ h' tk' kh' t', Fr h₀ L h' m → News h₀ L h' ((A, instObj 541 AD) :: (AD, dictOf ea na) :: (S, instObj 381 SD) :: (SD, dictOf es ns) :: (HL, listOf (hs ++ [v]).toArray kh') :: (KL, listOf (ks).toArray kk) :: (TR, listOf (ts).toArray kt) :: (CD, listOf ([.ref C1, .ref C2] : List Value).toArray kc) :: (C1, codeTup c1a c1b 2 c1t) :: (C2, codeTup c2a c2b 1 c2t) :: tl) → Q (.int (hs.length : Int) t') { s with heap := h', toks := tk' }) :
    wpAny (model PySem.Challenge.rw_rh0105_01.row.prog w) (ktrTop dp un gd cn cs L a ccd cl outer) (call (.ref 202) [.ref S, v]) Q E s := by
  obtain ⟨o1, o2, o3, o4, o5, o6, o7, o8, o9⟩ := ord
  obtain ⟨offA, offS, offH, offK, offT⟩ := off
  refine wpAny_call ?_
  k_dflt (refine' code_def (binds := [(Str.ofString "self", .ref S), (Str.ofString "cell", v)]) ?k1 ?k2 ?k3 ?k4 ?k5 ?kA ?kF ?kK ?k6 ?k7 ?k8 ?k9 ?kB ?_ ?c2 ?c3 ?c4 ?c5; walk_at "My enter")
  k_steps
  all_goals ((rename News _ _ _ _ => N9); (exact hret _ _ _ _ (by assumption) N9))



local macro_rules | `(tactic| walk_at "call ref") => `(tactic| (k_here; (with_reducible show wpAny _ _ (call (Value.ref 202) _) _ _ _); (try dsimp only [List.cons_append, List.nil_append, List.append_nil]); k_dflt (refine' c_push (B := ?B) (F := ?F) (X := ?X) (N := ?N) (T := ?T) (hk := ?hk) (hdp := ?hdp) (hun := ?hun) (ord := ?ord) (off := ?off) (hA := ?hA) (hS := ?hS) (hlen := ?z1) ?_; walk_at "My call"; (case z1 => omega); intro h' tk' kh' t' F' N'; (try dsimp only))))
local macro_rules | `(tactic| walk_at "call ref") => `(tactic| (k_here; (with_reducible show wpAny _ _ (call (Value.ref 279) _) _ _ _); (try dsimp only [List.cons_append, List.nil_append, List.append_nil]); k_dflt (refine' c_put (B := ?B) (F := ?F) (X := ?X) (N := ?N) (T := ?T) (hk := ?hk) (hdp := ?hdp) (hun := ?hun) (ord := ?ord) (off := ?off) (hA := ?hA) (hS := ?hS) (hi0 := ?z1) (hi := ?z2) (hlen := ?z3) ?_; walk_at "My call"; (case z1 => omega); (case z2 => omega); (case z3 => omega); intro h' tk' kk' ks' eK' lK' F' N'; (try dsimp only))))
local macro_rules | `(tactic| walk_at "call ref") => `(tactic| (k_here; (try dsimp only); (with_reducible show wpAny _ _ (call (Value.ref 454) _) _ _ _); (try dsimp only [List.cons_append, List.nil_append, List.append_nil]); k_dflt (refine' c_top (B := ?B) (F := ?F) (X := ?X) (N := ?N) (T := ?T) (hk := ?hk) (hdp := ?hdp) (hun := ?hun) (ord := ?ord) (off := ?off) (hA := ?hA) (hS := ?hS) (hpl := ?z0) (hcp := ?z1) (hcnt := ?z2) (hlen := ?z3) (he := ?z4) (hb1 := ?z5) (hc1 := ?z6) ?_; walk_at "My call"; (case z0 => with_reducible assumption); (case z1 => with_reducible assumption); (case z2 => with_reducible assumption); (case z3 => omega); (case z4 => omega); (case z5 => omega); (case z6 => first | with_reducible assumption | omega); intro h' tk' t' F' N'; (try dsimp only))))
local macro_rules | `(tactic| walk_at "call ref") => `(tactic| (k_here; (with_reducible show wpAny _ _ (call (Value.ref 265) _) _ _ _); (try dsimp only [List.cons_append, List.nil_append, List.append_nil]); k_dflt (refine' c_mark (B := ?B) (F := ?F) (X := ?X) (N := ?N) (T := ?T) (hk := ?hk) (hdp := ?hdp) (hun := ?hun) (ord := ?ord) (off := ?off) (hA := ?hA) (hS := ?hS) (htr := ?z1) ?_; walk_at "My call"; (case z1 => omega); intro h' tk' t' F' N'; (try dsimp only))))

set_option maxHeartbeats 8000000 in
theorem c_new_var {w : World} {mean : ExcName → Option Value} {mg mb : Str → Option Value} {dp un : Nat} {gd : Option (List Code)} {cn : Str} {cs : Scope} {a : Addr} {ccd : Value} {cl : List (Str × Addr)} {outer : List Env} {A₀ : Around} {base h₀ : Heap} {L : Addr} {m : Str → Option Value} {s : Shared} {Q E : Value → Shared → Prop} {A AD S SD HL KL TR CD C1 C2 : Nat} {ea es : List DictEntry} {na ns kh kk kt kc : Nat} {hs ks ts : List Value} {tl : List (Addr × Obj)} {cp e b b0 hb bb : Int} {u1 u2 u3 u4 v1 v2 v3 : Tok} {c1a c1b c2a c2b : Value} {c1t c2t : Tok} 
   (B : Below A₀ base outer h₀) (F : Fr h₀ L s.heap m) (X : (hd.heap_39 w.params).In h₀) (N : News h₀ L s.heap ((A, instObj 541 AD) :: (AD, dictOf ea na) :: (S, instObj 381 SD) :: (SD, dictOf es ns) :: (HL, listOf (hs).toArray kh) :: (KL, listOf (ks).toArray kk) :: (TR, listOf (ts).toArray kt) :: (CD, listOf ([.ref C1, .ref C2] : List Value).toArray kc) :: (C1, codeTup c1a c1b 2 c1t) :: (C2, codeTup c2a c2b 1 c2t) :: tl)) (T : TopL mean mg mb h₀) (hk : cs.kind = .function) (hdp : dp + 4 < recursionLimit) (hun : un + 32 < cLine)
   (ord : C1 < C2 ∧ C2 < CD ∧ CD < AD ∧ AD < A ∧ A < SD ∧ SD < S ∧ S < HL ∧ HL < KL ∧ KL < TR) (off : Off AD SD HL KL TR tl) (hA : AIs ea S CD cp e b b0 u1 u2 u3 u4) (hS : SIs es HL KL TR hb bb v1 v2 v3) (hlen : hs.length ≤ 1000)
   (hret : ∀ h' tk' kh' q, Fr h₀ L h' m → News h₀ L h' ((A, instObj 541 AD) :: (AD, dictOf ea na) :: (S, instObj 381 SD) :: (SD, dictOf es ns) :: (HL, listOf (hs ++ [Value.ref q]).toArray kh') :: (KL, listOf (ks).toArray kk) :: (TR, listOf (ts).toArray kt) :: (CD, listOf ([.ref C1, .ref C2] : List Value).toArray kc) :: (C1, codeTup c1a c1b 2 c1t) :: (C2, codeTup c2a c2b 1 c2t) :: tl) → Q (.ref q) { s with heap := h', toks := tk' }) :
    wpAny (model PySem.Challenge.rw_rh0105_01.row.prog w) (ktrTop dp un gd cn cs L a ccd cl outer) (call (.ref 209) [.ref S]) Q E s := by
  obtain ⟨o1, o2, o3, o4, o5, o6, o7, o8, o9⟩ := ord
  obtain ⟨offA, offS, offH, offK, offT⟩ := off
  refine wpAny_call ?_
  k_dflt (refine' code_def (binds := [(Str.ofString "self", .ref S)]) ?k1 ?k2 ?k3 ?k4 ?k5 ?kA ?kF ?kK ?k6 ?k7 ?k8 ?k9 ?kB ?_ ?c2 ?c3 ?c4 ?c5; walk_at "My enter")
  k_steps
  all_goals ((rename News _ _ _ _ => N9); (exact hret _ _ _ _ (by assumption) (drop1 N9)))


set_option maxHeartbeats 8000000 in
theorem c_bind {w : World} {mean : ExcName → Option Value} {mg mb : Str → Option Value} {dp un : Nat} {gd : Option (List Code)} {cn : Str} {cs : Scope} {a : Addr} {ccd : Value} {cl : List (Str × Addr)} {outer : List Env} {A₀ : Around} {base h₀ : Heap} {L : Addr} {m : Str → Option Value} {s : Shared} {Q E : Value → Shared → Prop} {A AD S SD HL KL TR CD C1 C2 : Nat} {ea es : List DictEntry} {na ns kh kk kt kc : Nat} {hs ks ts : List Value} {tl : List (Addr × Obj)} {cp e b b0 hb bb : Int} {u1 u2 u3 u4 v1 v2 v3 : Tok} {c1a c1b c2a c2b : Value} {c1t c2t : Tok} {q : Nat} {v : Value} {i : Int} {t1 t2 : Tok}
   (B : Below A₀ base outer h₀) (F : Fr h₀ L s.heap m) (X : (hd.heap_39 w.params).In h₀) (N : News h₀ L s.heap ((A, instObj 541 AD) :: (AD, dictOf ea na) :: (S, instObj 381 SD) :: (SD, dictOf es ns) :: (HL, listOf (hs).toArray kh) :: (KL, listOf (ks).toArray kk) :: (TR, listOf (ts).toArray kt) :: (CD, listOf ([.ref C1, .ref C2] : List Value).toArray kc) :: (C1, codeTup c1a c1b 2 c1t) :: (C2, codeTup c2a c2b 1 c2t) :: tl)) (T : TopL mean mg mb h₀) (hk : cs.kind = .function) (hdp : dp + 3 < recursionLimit) (hun : un + 24 < cLine)
   (ord : C1 < C2 ∧ C2 < CD ∧ CD < AD ∧ AD < A ∧ A < SD ∧ SD < S ∧ S < HL ∧ HL < KL ∧ KL < TR) (off : Off AD SD HL KL TR tl) (hA : AIs ea S CD cp e b b0 u1 u2 u3 u4) (hS : SIs es HL KL TR hb bb v1 v2 v3) (hq : (q, ({ cls := .type "tuple", data := .seq [.int 0 t1, .int i t2].toArray 0 } : Obj)) ∈ tl) (h0 : 0 ≤ i) (h1 : i < hs.length) (hlen : hs.length ≤ 1000) (hts : ts.length ≤ 1000)
   (hret : ∀ h' tk' ts' kt' t', Fr h₀ L h' m → News h₀ L h' ((A, instObj 541 AD) :: (AD, dictOf ea na) :: (S, instObj 381 SD) :: (SD, dictOf es ns) :: (HL, listOf (hs.set i.toNat v).toArray kh) :: (KL, listOf (ks).toArray kk) :: (TR, listOf (ts').toArray kt') :: (CD, listOf ([.ref C1, .ref C2] : List Value).toArray kc) :: (C1, codeTup c1a c1b 2 c1t) :: (C2, codeTup c2a c2b 1 c2t) :: tl) → (i < hb ∧ ts' = ts ++ [.int i t'] ∨ hb ≤ i ∧ ts' = ts) → Q .none { s with heap := h', toks := tk' }) :
    wpAny (model PySem.Challenge.rw_rh0105_01.row.prog w) (ktrTop dp un gd cn cs L a ccd cl outer) (call (.ref 244) [.ref S, .ref q, v]) Q E s := by
  obtain ⟨o1, o2, o3, o4, o5, o6, o7, o8, o9⟩ := ord
  obtain ⟨offA, offS, offH, offK, offT⟩ := off
  refine wpAny_call ?_
  k_dflt (refine' code_def (binds := [(Str.ofString "self", .ref S), (Str.ofString "cell", .ref q), (Str.ofString "value", v)]) ?k1 ?k2 ?k3 ?k4 ?k5 ?kA ?kF ?kK ?k6 ?k7 ?k8 ?k9 ?kB ?_ ?c2 ?c3 ?c4 ?c5; walk_at "My enter")
  k_steps
  all_goals ((rename News _ _ _ _ => N9); first | (exact hret _ _ _ _ _ (by assumption) N9 (.inl ⟨by assumption, rfl⟩)) | (exact hret _ _ _ _ 0 (by assumption) N9 (.inr ⟨by omega, rfl⟩)))



end
section
section
variable {prog : Program} {w : World} {A : Around} {E : Value → Shared → Prop} {s : Shared} {env : Env} {h₀ : Heap} {x : Str} {body : List Stmt} {Q : Flow → Shared → Prop}
def LS {σ : Type} (Led : σ → List (Addr × Obj)) (loc : σ → List (Str × Value)) (x : Str) (stored : List Str) (m₀ : Str → Option Value) (P : σ → Prop) (m : Str → Option Value) (nx : List (Addr × Obj)) : Prop :=
  ∃ c : σ, nx = Led c ∧ P c ∧ (∀ p ∈ loc c, m p.1 = some p.2) ∧ (∀ z, z ≠ x → (∀ p ∈ loc c, z ≠ p.1) → stored.contains z = false → m z = m₀ z)
theorem ls_end {σ : Type} {Led : σ → List (Addr × Obj)} {loc : σ → List (Str × Value)} {stored : List Str} {m₀ : Str → Option Value} {P : σ → Prop} (c : σ) {L : Addr} {m' : Str → Option Value} {own news' : List (Addr × Obj)} {s₁ : Shared} {h' : Heap} {tk : Nat} {Z : List (Addr × Obj) → Prop}
    (F : Fr h₀ L h' m') (N : News h₀ L h' news') (hn : ∀ p ∈ Led c, p ∈ news') (ho : ∀ p ∈ own, p ∈ news') (off : OwnOff own ((Led c).map (·.1))) (hP : P c) (hk : ∀ p ∈ loc c, m' p.1 = some p.2) (hr : ∀ z, z ≠ x → (∀ p ∈ loc c, z ≠ p.1) → stored.contains z = false → m' z = m₀ z) (hZ : Z (Led c)) :
    InvEndG h₀ L (fun m' nx => Z nx ∧ LS Led loc x stored m₀ P m' nx) own s₁ { s₁ with heap := h', toks := tk } :=
  ⟨h', tk, m', news', Led c, rfl, F, N, hn, ho, off, hZ, c, rfl, hP, hk, hr⟩
theorem my_list {σ : Type} {l : Addr} {vs : List Value} {nn : Nat} {m₀ : Str → Option Value} (Led : σ → List (Addr × Obj)) (loc : σ → List (Str × Value)) (stored : List Str) (P : Nat → σ → Prop) (c₀ : σ)
    (hh : A.handled = none) (hl : (l, listOf vs.toArray nn) ∈ Led c₀) (F : Fr h₀ env.locals s.heap m₀) (N : News h₀ env.locals s.heap (Led c₀)) (hp : P 0 c₀) (hk : ∀ p ∈ loc c₀, m₀ p.1 = some p.2)
    (turn : ∀ i v c (u : Str → Option Value) h tk own, vs[i]? = some v → P i c → OwnOff own ((Led c).map (·.1)) → Fr h₀ env.locals h (fun y => if y = x then some v else kstB (fun z => if stored.contains z then u z else m₀ z) (loc c) y) → News h₀ env.locals h (Led c ++ own) →
      wpAny (model prog w) A (execs body env) (InvPostG h₀ env.locals (fun m' nx => (l, listOf vs.toArray nn) ∈ nx ∧ LS Led loc x stored m₀ (P (i + 1)) m' nx) own { s with heap := h, toks := tk } Q) E { s with heap := h, toks := tk })
    (done : ∀ c (u : Str → Option Value) h tk, P vs.length c → Fr h₀ env.locals h (fun y => if y = x then u y else kstB (fun z => if stored.contains z then u z else m₀ z) (loc c) y) → News h₀ env.locals h (Led c) → Q .next { s with heap := h, toks := tk }) :
    wpAny (model prog w) A (pyIter (.ref l)) (fun it s₂ => LoopAtV prog w A h₀ env x body Q E it s₂) E s := by
  refine kdl_iter (news := Led c₀) (fun i m nx => LS Led loc x stored m₀ (P i) m nx) hh hl F N ⟨c₀, rfl, hp, hk, fun _ _ _ _ => rfl⟩ ?_ ?_
  · rintro i v m₁ nx h tk own hv hoff _ ⟨c, rfl, hP, h1, h2⟩ F₁ N₁
    exact turn i v c m₁ h tk own hv hP hoff (kst_fr h1 h2 F₁) N₁
  · rintro m₁ nx h tk ⟨c, rfl, hP, h1, h2⟩ F₁ N₁
    exact done c m₁ h tk hP (kst_frOut h1 h2 F₁) N₁
theorem my_range {σ : Type} {r : Addr} {b₀ : Int} {t₀ u₀ v₀ : Tok} {n : Nat} {m₀ : Str → Option Value} {news : List (Addr × Obj)} (Led : σ → List (Addr × Obj)) (loc : σ → List (Str × Value)) (stored : List Str) (P : Nat → σ → Prop) (c₀ : σ)
    (hh : A.handled = none) (hr : IsRange s.heap r 0 b₀ 1 t₀ u₀ v₀) (hb : b₀ = (n : Int)) (hn8 : n ≤ 100) (F : Fr h₀ env.locals s.heap m₀) (N : News h₀ env.locals s.heap news) (hsub : ∀ p ∈ Led c₀, p ∈ news) (hp : P 0 c₀) (hk : ∀ p ∈ loc c₀, m₀ p.1 = some p.2)
    (turn : ∀ i t c (u : Str → Option Value) h tk own, i < n → P i c → OwnOff own ((Led c).map (·.1)) → Fr h₀ env.locals h (fun y => if y = x then some (.int (i : Int) t) else kstB (fun z => if stored.contains z then u z else m₀ z) (loc c) y) → News h₀ env.locals h (Led c ++ own) →
      wpAny (model prog w) A (execs body env) (InvPostG h₀ env.locals (fun m' nx => True ∧ LS Led loc x stored m₀ (P (i + 1)) m' nx) own { s with heap := h, toks := tk } Q) E { s with heap := h, toks := tk })
    (done : ∀ c (u : Str → Option Value) h tk, P n c → Fr h₀ env.locals h (fun y => if y = x then u y else kstB (fun z => if stored.contains z then u z else m₀ z) (loc c) y) → News h₀ env.locals h (Led c) → Q .next { s with heap := h, toks := tk }) :
    wpAny (model prog w) A (pyIter (.ref r)) (fun it s₂ => LoopAtV prog w A h₀ env x body Q E it s₂) E s := by
  subst hb
  have hsmall : Builtin.Range.small 0 (n : Int) 1 = true := small_one (by decide) (by decide) (by omega) (by omega)
  have hsz : Builtin.Range.rangeSize 0 (n : Int) 1 = (n : Int) := by
    have := rangeSize_nat 0 n
    simpa using this
  refine wpAny_pyIter_range hr hsmall ?_
  have W : Walks prog w A s.heap.objs.size [s.heap.objs.size] [s.heap.objs.size] n (fun i v => i < n ∧ ∃ t, v = .int (0 + i * 1) t)
      (fun i h => IsRangeIter h s.heap.objs.size (0 + (i : Nat) * 1) ((n : Int) - (i : Nat)) 1) := (Walks.range hh _ 0 1 n).bound
  refine kdr_loop (news := Led c₀) (fun i m nx => LS Led loc x stored m₀ (P i) m nx) W (fun _ h => h) (fun _ h => h) ?_ ?_ ?_ ?_ (by show IsRangeIter _ _ _ _ _; rw [hsz]; simpa using Heap.get?_push_size _ rfl) (F.push _) (fun p hp => ⟨Heap.get?_push_of_some _ (N p (hsub p hp)).1, (N p (hsub p hp)).2⟩) ⟨c₀, rfl, hp, hk, fun _ _ _ _ => rfl⟩ ?_ ?_
  · intro i h hi b hb
    rw [List.mem_singleton.mp hb]
    exact ⟨_, hi⟩
  · intro hm
    exact absurd F.ns.lt ((List.mem_singleton.mp hm) ▸ Nat.lt_irrefl _)
  · intro b hb
    rw [List.mem_singleton.mp hb]
    exact next_is_new F
  · intro p hp hI
    exact absurd (Heap.lt_size (N p (hsub p hp)).1) ((List.mem_singleton.mp hI) ▸ Nat.lt_irrefl _)
  · rintro i v m₁ nx h tk own hi ⟨_, t, rfl⟩ hoff ⟨c, rfl, hP, h1, h2⟩ F₁ N₁
    have e1 : (0 : Int) + (i : Int) * 1 = (i : Int) := by omega
    rw [e1] at F₁
    refine wpAny_mono (turn i t c m₁ h tk own hi hP hoff (kst_fr h1 h2 F₁) N₁) (fun f s₂ p => ?_) fun _ _ x => x
    have up : InvEndG h₀ env.locals (fun m' nx => True ∧ LS Led loc x stored m₀ (P (i + 1)) m' nx) own { s with heap := h, toks := tk } s₂ →
        InvEndG h₀ env.locals (fun m' nx => LS Led loc x stored m₀ (P (i + 1)) m' nx) own { s with heap := h, toks := tk } s₂ := by
      rintro ⟨h', tk', m', news', nx', e', F', N', hn', ho', ha, _, hS⟩
      exact ⟨h', tk', m', news', nx', e', F', N', hn', ho', ha, hS⟩
    cases f with
    | ret v => exact p
    | brk => exact p
    | next => exact up p
    | cont => exact up p
  · rintro m₁ nx h tk ⟨c, rfl, hP, h1, h2⟩ F₁ N₁
    exact done c m₁ h tk hP (kst_frOut h1 h2 F₁) N₁
end
theorem seq_snoc : ∀ (l X : List Value) (p : Int) (v : Value), putSeq X p (l ++ [v]) = putAt (putSeq X p l) (p + (l.length : Int)) v
  | [], X, p, v => by simp [putSeq]
  | a :: l, X, p, v => by
    show putSeq (putAt X p a) (p + 1) (l ++ [v]) = putAt (putSeq (putAt X p a) (p + 1) l) (p + ((a :: l).length : Int)) v
    rw [seq_snoc l]
    refine putAt_congr rfl ?_
    rw [List.length_cons]; omega
theorem seq_take {gs X : List Value} {p : Int} {j : Nat} {v : Value} (h : gs[j]? = some v) : putAt (putSeq X p (gs.take j)) (p + (j : Int)) v = putSeq X p (gs.take (j + 1)) := by
  have hj : j < gs.length := (List.getElem?_eq_some_iff.mp h).1
  rw [List.take_add_one, h, Option.toList_some, seq_snoc, List.length_take]
  refine putAt_congr rfl ?_
  omega
theorem seq_append : ∀ (l r X : List Value) (p : Int), putSeq X p (l ++ r) = putSeq (putSeq X p l) (p + (l.length : Int)) r
  | [], r, X, p => by simp [putSeq]
  | a :: l, r, X, p => by
    show putSeq (putAt X p a) (p + 1) (l ++ r) = putSeq (putSeq (putAt X p a) (p + 1) l) (p + ((a :: l).length : Int)) r
    rw [seq_append l, List.length_cons]
    congr 1; omega
theorem off_app {tl own : List (Addr × Obj)} {adr : List Addr} {d : Nat} (h : ∀ p ∈ tl, p.1 ≠ d) (ho : OwnOff own adr) (hd : d ∈ adr) : ∀ p ∈ tl ++ own, p.1 ≠ d := by
  intro p hp
  rcases List.mem_append.mp hp with hp | hp
  · exact h p hp
  · exact ho p hp d hd
theorem core_sub {c1 c2 c3 c4 c5 c6 c7 c8 c9 c10 : Addr × Obj} {tl own : List (Addr × Obj)} : ∀ p ∈ (c1 :: c2 :: c3 :: c4 :: c5 :: c6 :: c7 :: c8 :: c9 :: c10 :: tl), p ∈ (c1 :: c2 :: c3 :: c4 :: c5 :: c6 :: c7 :: c8 :: c9 :: c10 :: (tl ++ own)) := by
  intro p hp
  simp only [List.mem_cons, List.mem_append] at hp ⊢
  rcases hp with hp | hp | hp | hp | hp | hp | hp | hp | hp | hp | hp
  all_goals simp only [hp, true_or, or_true]
theorem core_own {c1 c2 c3 c4 c5 c6 c7 c8 c9 c10 : Addr × Obj} {tl own : List (Addr × Obj)} : ∀ p ∈ own, p ∈ (c1 :: c2 :: c3 :: c4 :: c5 :: c6 :: c7 :: c8 :: c9 :: c10 :: (tl ++ own)) := by
  intro p hp
  simp only [List.mem_cons, List.mem_append, hp, or_true]
theorem get_hit {ks ks' : List Value} {i : Int} {v : Value} {j : Nat} (q : ks' = putAt ks i v) (h0 : 0 ≤ i) (h1 : i ≤ ks.length) (e : j = i.toNat) : ks'[j]? = some v := by rw [q, get_putAt h0 h1, if_pos e]
theorem get_skip {ks ks' : List Value} {i : Int} {v : Value} {j : Nat} {r : Option Value} (q : ks' = putAt ks i v) (h0 : 0 ≤ i) (h1 : i ≤ ks.length) (e : j ≠ i.toNat) (h : ks[j]? = r) : ks'[j]? = r := by rw [q, get_putAt h0 h1, if_neg e]; exact h
theorem getS_skip {ks vs : List Value} {p : Int} {j : Nat} {r : Option Value} (h0 : 0 ≤ p) (h1 : p ≤ ks.length) (e : j < p.toNat) (h : ks[j]? = r) : (putSeq ks p vs)[j]? = r := by rw [get_putSeq vs ks p h0 h1, if_neg (by omega)]; exact h
theorem post_gen {α : Type} {M : Model} {A : Around} {t : Sem α} {Q : α → Shared → Prop} {E : Value → Shared → Prop} {s : Shared} (h : ∀ Q' : α → Shared → Prop, (∀ f s', Q f s' → Q' f s') → wpAny M A t Q' E s) : wpAny M A t Q E s := h Q fun _ _ x => x
theorem SIs.cast {es : List DictEntry} {HL KL TR : Nat} {hb bb hb' bb' : Int} {t1 t2 t3 : Tok} (h : SIs es HL KL TR hb bb t1 t2 t3) (e1 : hb = hb') (e2 : bb = bb') : SIs es HL KL TR hb' bb' t1 t2 t3 := by subst e1 e2; exact h
theorem seq_cons (ks : List Value) (p : Int) (v : Value) (vs : List Value) : putSeq ks p (v :: vs) = putSeq (putAt ks p v) (p + 1) vs := rfl

end
section
local macro_rules | `(tactic| walk_at "My enter") => `(tactic| ((case kA => exact rfl); (case kF => exact rfl); (case kK => assumption); (case k1 => k_asm); (case k2 => k_asm); (case k3 => k_asm); (case k4 => k_asm); (case k5 => k_asm); (case k6 => k_is); (case k7 => k_is); (case k8 => ktr_room); (case k9 => exact BindsTo.of_eq rfl); (case c5 => decide); (case kB => exact locs rfl); (case c2 => exact rfl); (case c3 => exact rfl); (case c4 => exact rfl); k_whole; intro g' L' h' FG' F' N' B' X' T'; (try dsimp only); (try k_fold)))
local macro_rules | `(tactic| walk_at "My A") => `(tactic| first | with_reducible assumption | exact AIs.set_e (by walk_at "My A") | exact AIs.set_b (by walk_at "My A") | exact AIs.set_cp (by walk_at "My A") | exact AIs.set_b0 (by walk_at "My A"))
local macro_rules | `(tactic| walk_at "My S") => `(tactic| first | with_reducible assumption | exact SIs.set_hb (by walk_at "My S") | exact SIs.set_bb (by walk_at "My S"))
local macro_rules | `(tactic| k_get) => `(tactic| first
  | exact SIs.stack (by walk_at "My S") | exact SIs.heap (by walk_at "My S") | exact SIs.trail (by walk_at "My S") | exact SIs.hb (by walk_at "My S") | exact SIs.bb (by walk_at "My S") | exact SIs.max_heap (by walk_at "My S")
  | exact SIs.stack_put (by walk_at "My S") | exact SIs.mark (by walk_at "My S") | exact SIs.push (by walk_at "My S") | exact SIs.new_var (by walk_at "My S") | exact SIs.bind (by walk_at "My S")
  | exact AIs.code (by walk_at "My A") | exact AIs.store (by walk_at "My A") | exact AIs.cp (by walk_at "My A") | exact AIs.e (by walk_at "My A") | exact AIs.b (by walk_at "My A") | exact AIs.b0 (by walk_at "My A")
  | exact AIs.top (by walk_at "My A") | exact AIs.set_choice (by walk_at "My A") | exact AIs.push_environment (by walk_at "My A") | exact AIs.push_choice (by walk_at "My A") | exact AIs.choice_part (by walk_at "My A") | exact AIs.cut_back (by walk_at "My A") | exact AIs.choices (by walk_at "My A"))
local macro_rules | `(tactic| walk_at "My mem") => `(tactic| first | exact List.Mem.head _ | (refine' List.Mem.tail _ ?_; walk_at "My mem") | assumption)
local macro_rules | `(tactic| k_all) => `(tactic| with_reducible assumption)
local macro_rules | `(tactic| walk_at "call builtin:len") => `(tactic| (k_here; (with_reducible show wpAny _ _ (call (Value.builtin "len") [Value.ref _]) _ _ _); k_dflt (refine' m_len ?k1 ?k2 ?k3 ?_; (case k1 => k_asm); (case k2 => walk_at "My mem"); (case k3 => omega); k_whole)))
local macro_rules | `(tactic| walk_at "setItem ref int") => `(tactic| (k_here; k_dflt (refine' m_set ?k1 ?k2 ?k3 ?k4 ?k5 ?k6 ?_; (case k1 => k_asm); (case k2 => k_asm); (case k6 => k_upd); (case k3 => omega); (case k4 => omega); (case k5 => omega); k_whole; intro h' F' N'; (try k_sweep))))
local macro_rules | `(tactic| walk_at "call builtin:list.append") => `(tactic| (k_here; k_dflt (refine' m_append ?k1 ?k2 ?k3 ?k4 ?_; (case k1 => k_asm); (case k2 => k_asm); (case k4 => k_upd); (case k3 => omega); k_whole; intro h' F' N'; (try k_sweep))))
local macro_rules | `(tactic| walk_at "WhlIf") => `(tactic| (first | (refine WhlIf.yes (decide_eq_true (by omega)) ?_) | (refine WhlIf.no (decide_eq_false (by omega)) ?_)))
local macro_rules | `(tactic| walk_at "My fit") => `(tactic| first | omega | ((try simp only [List.length_cons, List.length_nil, List.length_append, List.length_map]); omega))
local macro_rules | `(tactic| walk_at "My at") => `(tactic| first | with_reducible assumption | rfl | (refine' (show 0 ≤ (_ : Int) → (_ : Option Value) = some _ from by with_reducible assumption) ?_; omega))
local macro_rules | `(tactic| walk_at "subscriptTail") => `(tactic| (k_here; (with_reducible show wpAny _ _ (subscriptTail _ _ (Value.ref _) (Value.int _ _)) _ _ _); k_dflt (first
  | (refine' m_itemV ?k1 ?k2 ?k3 ?k4 ?k5 ?_; (case k1 => k_asm); (case k2 => walk_at "My mem"); (case k3 => omega); (case k4 => walk_at "My fit"); (case k5 => walk_at "My at"); k_whole)
  | (refine' m_tupV ?k1 ?k2 ?k3 ?k4 ?k5 ?_; (case k1 => k_asm); (case k2 => walk_at "My mem"); (case k3 => omega); (case k4 => walk_at "My fit"); (case k5 => walk_at "My at"); k_whole))))
local macro_rules | `(tactic| walk_at "setAttr ref") => `(tactic| (k_here; k_dflt (refine' m_setattr ?k1 ?k2 ?k3 ?k4 ?k5 ?k6 ?k7 ?k8 ?k9 ?k10 ?k11 ?k12 ?_; (case k1 => k_asm); (case k2 => k_asm); (case k3 => k_asm); (case k4 => k_inst); (case k5 => exact rfl); (case k6 => k_is); (case k7 => k_is); (case k8 => k_is); (case k9 => k_is); (case k10 => k_get); (case k11 => (intro t'; k_upd)); (case k12 => first | exact AIs.len (by walk_at "My A") | exact SIs.len (by walk_at "My S")); k_whole; intro t' tk' h' F' N'; (try dsimp only at N'); (try dsimp only); (try k_sweep))))
local macro_rules | `(tactic| walk_at "getAttr ref") => `(tactic| (k_here; k_dflt (refine' m_getattr ?k1 ?k2 ?k3 ?k4 ?k5 ?k6 ?k7 ?k8 ?k9 ?_; (case k1 => k_asm); (case k2 => k_asm); (case k3 => k_inst); (case k4 => k_is); (case k5 => k_is); (case k6 => k_is); (case k7 => k_is); (case k8 => k_get); (case k9 => k_handed); k_whole; intro tk'; (try dsimp only))))
local macro_rules | `(tactic| walk_at "My call") => `(tactic| ((case B => k_asm); (case F => k_asm); (case X => k_asm); (case N => first | k_asm | exact rot1 (by k_asm) | exact rot2 (by k_asm) | exact rot3 (by k_asm)); (case T => k_asm); (case hk => first | exact rfl | assumption); (case ord => omega); (case off => exact ⟨by k_all, by k_all, by k_all, by k_all, by k_all⟩); (case hA => walk_at "My A"); (case hS => walk_at "My S"); (case hdp => ktr_room); (case hun => ktr_units)))
local macro_rules | `(tactic| walk_at "call ref") => `(tactic| (k_here; (with_reducible show wpAny _ _ (call (Value.ref 482) _) _ _ _); k_dflt (refine' c_set (B := ?B) (F := ?F) (X := ?X) (N := ?N) (T := ?T) (hk := ?hk) (hdp := ?hdp) (hun := ?hun) (ord := ?ord) (off := ?off) (hA := ?hA) (hS := ?hS) (hcnt := ?z1) (hv := ?z2) (hlen := ?z3) (hb1 := ?z4) (hc1 := ?z5) ?_; walk_at "My call"; (case z1 => first | with_reducible assumption | walk_at "My get"); (case z2 => first | with_reducible assumption | walk_at "My get"); (case z3 => omega); (case z4 => omega); (case z5 => first | with_reducible assumption | omega); intro h' tk' ea' es' hb' bb' t1' t2' t3' F' N' hA' hS' e'; (try dsimp only))))
local macro_rules | `(tactic| walk_at "call ref") => `(tactic| (k_here; (with_reducible show wpAny _ _ (call (Value.ref 202) _) _ _ _); (try dsimp only [List.cons_append, List.nil_append, List.append_nil]); k_dflt (refine' c_push (B := ?B) (F := ?F) (X := ?X) (N := ?N) (T := ?T) (hk := ?hk) (hdp := ?hdp) (hun := ?hun) (ord := ?ord) (off := ?off) (hA := ?hA) (hS := ?hS) (hlen := ?z1) ?_; walk_at "My call"; (case z1 => omega); intro h' tk' kh' t' F' N'; (try dsimp only))))
local macro_rules | `(tactic| walk_at "call ref") => `(tactic| (k_here; (with_reducible show wpAny _ _ (call (Value.ref 279) _) _ _ _); (try dsimp only [List.cons_append, List.nil_append, List.append_nil]); k_dflt (refine' c_put (B := ?B) (F := ?F) (X := ?X) (N := ?N) (T := ?T) (hk := ?hk) (hdp := ?hdp) (hun := ?hun) (ord := ?ord) (off := ?off) (hA := ?hA) (hS := ?hS) (hi0 := ?z1) (hi := ?z2) (hlen := ?z3) ?_; walk_at "My call"; (case z1 => omega); (case z2 => omega); (case z3 => omega); intro h' tk' kk' ks' eK' lK' F' N'; (try dsimp only))))
local macro_rules | `(tactic| walk_at "call ref") => `(tactic| (k_here; (try dsimp only); (with_reducible show wpAny _ _ (call (Value.ref 454) _) _ _ _); (try dsimp only [List.cons_append, List.nil_append, List.append_nil]); k_dflt (refine' c_top (B := ?B) (F := ?F) (X := ?X) (N := ?N) (T := ?T) (hk := ?hk) (hdp := ?hdp) (hun := ?hun) (ord := ?ord) (off := ?off) (hA := ?hA) (hS := ?hS) (hpl := ?z0) (hcp := ?z1) (hcnt := ?z2) (hlen := ?z3) (he := ?z4) (hb1 := ?z5) (hc1 := ?z6) ?_; walk_at "My call"; (case z0 => with_reducible assumption); (case z1 => with_reducible assumption); (case z2 => with_reducible assumption); (case z3 => omega); (case z4 => omega); (case z5 => omega); (case z6 => first | with_reducible assumption | omega); intro h' tk' t' F' N'; (try dsimp only))))
local macro_rules | `(tactic| walk_at "call ref") => `(tactic| (k_here; (with_reducible show wpAny _ _ (call (Value.ref 265) _) _ _ _); (try dsimp only [List.cons_append, List.nil_append, List.append_nil]); k_dflt (refine' c_mark (B := ?B) (F := ?F) (X := ?X) (N := ?N) (T := ?T) (hk := ?hk) (hdp := ?hdp) (hun := ?hun) (ord := ?ord) (off := ?off) (hA := ?hA) (hS := ?hS) (htr := ?z1) ?_; walk_at "My call"; (case z1 => omega); intro h' tk' t' F' N'; (try dsimp only))))
local macro_rules | `(tactic| walk_at "My get1") => `(tactic| first
  | with_reducible assumption
  | (refine' get_hit (by with_reducible assumption) ?a ?b ?c; (case c => omega); (case a => omega); (case b => omega))
  | (refine' get_skip (by with_reducible assumption) ?a ?b ?c ?_; (case a => omega); (case b => omega); (case c => omega); walk_at "My get1")
  | (refine' getS_skip ?a ?b ?c ?_; (case a => omega); (case b => omega); (case c => omega); walk_at "My get1"))
local macro_rules | `(tactic| walk_at "My get") => `(tactic| (intro _; walk_at "My get1"))
local macro_rules | `(tactic| walk_at "My subst") => `(tactic| (repeat ((rename _ = putAt _ _ _ => eK9); subst eK9)))

theorem allLt_off {d : Nat} : ∀ {l : List (Addr × Obj)}, AllLt d l → ∀ p ∈ l, p.1 ≠ d
  | [], _, p, hp => nomatch hp
  | q :: r, h, p, hp => by
    have h1 : q.1 < d := h.1
    rcases List.mem_cons.mp hp with rfl | hp
    · exact Nat.ne_of_lt h1
    · exact allLt_off h.2 p hp
theorem unr_rot {h₀ : Heap} {L I : Addr} {it : Obj} {rest : (Str → Option Value) → List (Addr × Obj) → Prop} {s₁ : Shared} {h' : Heap} {tk : Nat} {m' : Str → Option Value} {c1 c2 c3 c4 c5 c6 c7 c8 c9 c10 : Addr × Obj} {tl : List (Addr × Obj)}
    (F : Fr h₀ L h' m') (N : News h₀ L h' (c1 :: c2 :: c3 :: c4 :: c5 :: c6 :: c7 :: c8 :: c9 :: c10 :: (I, it) :: tl)) (off : ∀ p ∈ (c1 :: c2 :: c3 :: c4 :: c5 :: c6 :: c7 :: c8 :: c9 :: c10 :: tl), p.1 ≠ I) (r : rest m' (c1 :: c2 :: c3 :: c4 :: c5 :: c6 :: c7 :: c8 :: c9 :: c10 :: tl)) : UnrEnd h₀ L s₁ I it rest { s₁ with heap := h', toks := tk } := by
  refine UnrEnd.intro F N _ (fun p hp => ?_) off r
  simp only [List.mem_cons] at hp ⊢
  rcases hp with hp | hp | hp | hp | hp | hp | hp | hp | hp | hp | hp | hp
  all_goals simp only [hp, true_or, or_true]
local macro_rules | `(tactic| walk_at "UnrEnd") => `(tactic| ((rename _ < _ ∧ _ < _ ∧ _ < _ ∧ _ => lU9); (have lV9 := allLt_off lU9.2.2.2.2.2.2.2.2.2.2); (rename News _ _ _ _ => nU9); refine unr_rot (by assumption) nU9 (by k_all) ?_))
theorem news_ks {h₀ h : Heap} {L KL : Addr} {c1 c2 c3 c4 c5 : Addr × Obj} {xs ys : List Value} {n : Nat} {r : List (Addr × Obj)} (N : News h₀ L h (c1 :: c2 :: c3 :: c4 :: c5 :: (KL, listOf xs.toArray n) :: r)) (e : xs = ys) :
    News h₀ L h (c1 :: c2 :: c3 :: c4 :: c5 :: (KL, listOf ys.toArray n) :: r) := e ▸ N
local macro_rules | `(tactic| walk_at "My seq") => `(tactic| ((simp only [putSeq]); (repeat' (first | exact rfl | refine putAt_congr ?_ ?_ | omega))))

set_option maxHeartbeats 8000000 in
theorem c_env {w : World} {mean : ExcName → Option Value} {mg mb : Str → Option Value} {dp un : Nat} {gd : Option (List Code)} {cn : Str} {cs : Scope} {a : Addr} {ccd : Value} {cl : List (Str × Addr)} {outer : List Env} {A₀ : Around} {base h₀ : Heap} {L : Addr} {m : Str → Option Value} {s : Shared} {Q E : Value → Shared → Prop} {A AD S SD HL KL TR CD C1 C2 : Nat} {ea es : List DictEntry} {na ns kh kk kt kc : Nat} {hs ks ts : List Value} {tl : List (Addr × Obj)} {cp e b b0 hb bb : Int} {u1 u2 u3 u4 v1 v2 v3 : Tok} {c1a c1b c2a c2b : Value} {c1t c2t : Tok} {cnt pl : Int} {ct szt : Tok}
   (B : Below A₀ base outer h₀) (F : Fr h₀ L s.heap m) (X : (hd.heap_39 w.params).In h₀) (N : News h₀ L s.heap ((A, instObj 541 AD) :: (AD, dictOf ea na) :: (S, instObj 381 SD) :: (SD, dictOf es ns) :: (HL, listOf (hs).toArray kh) :: (KL, listOf (ks).toArray kk) :: (TR, listOf (ts).toArray kt) :: (CD, listOf ([.ref C1, .ref C2] : List Value).toArray kc) :: (C1, codeTup c1a c1b 2 c1t) :: (C2, codeTup c2a c2b 1 c2t) :: tl)) (T : TopL mean mg mb h₀) (hk : cs.kind = .function) (hdp : dp + 4 < recursionLimit) (hun : un + 32 < cLine)
   (ord : C1 < C2 ∧ C2 < CD ∧ CD < AD ∧ AD < A ∧ A < SD ∧ SD < S ∧ S < HL ∧ HL < KL ∧ KL < TR) (off : Off AD SD HL KL TR tl) (hA : AIs ea S CD cp e b b0 u1 u2 u3 u4) (hS : SIs es HL KL TR hb bb v1 v2 v3) (hpl : topV e b cp cnt = pl) (hcp : cp = 1 ∨ cp = 2) (hcnt : 0 ≤ b → ks[b.toNat]? = some (.int cnt ct)) (hlen : ks.length ≤ 900) (he : -1 ≤ e ∧ e ≤ 900) (hb1 : -1 ≤ b ∧ b ≤ 900) (hc1 : 0 ≤ b → 0 ≤ cnt ∧ cnt ≤ 2) (hp0 : 0 ≤ pl) (hp1 : pl ≤ ks.length)
   (hret : ∀ h' tk' ea' kk' t2, Fr h₀ L h' m → News h₀ L h' ((A, instObj 541 AD) :: (AD, dictOf ea' na) :: (S, instObj 381 SD) :: (SD, dictOf es ns) :: (HL, listOf (hs).toArray kh) :: (KL, listOf (putSeq ks pl [.int e u2, .int cp u1, .ref 180, .ref 180]).toArray kk') :: (TR, listOf (ts).toArray kt) :: (CD, listOf ([.ref C1, .ref C2] : List Value).toArray kc) :: (C1, codeTup c1a c1b 2 c1t) :: (C2, codeTup c2a c2b 1 c2t) :: tl) → AIs ea' S CD cp pl b b0 u1 t2 u3 u4 → Q .none { s with heap := h', toks := tk' }) :
    wpAny (model PySem.Challenge.rw_rh0105_01.row.prog w) (ktrTop dp un gd cn cs L a ccd cl outer) (call (.ref 461) [.ref A, .int 2 szt]) Q E s := by
  obtain ⟨o1, o2, o3, o4, o5, o6, o7, o8, o9⟩ := ord
  obtain ⟨offA, offS, offH, offK, offT⟩ := off
  refine wpAny_call ?_
  k_dflt (refine' code_def (binds := [(Str.ofString "self", .ref A), (Str.ofString "size", .int 2 szt)]) ?k1 ?k2 ?k3 ?k4 ?k5 ?kA ?kF ?kK ?k6 ?k7 ?k8 ?k9 ?kB ?_ ?c2 ?c3 ?c4 ?c5; walk_at "My enter")
  k_steps
  all_goals ((walk_at "My subst"); (rename News _ _ _ _ => N9); (exact hret _ _ _ _ _ (by assumption) (news_ks N9 (by walk_at "My seq")) (by walk_at "My A")))



set_option maxHeartbeats 8000000 in
theorem c_pch {w : World} {mean : ExcName → Option Value} {mg mb : Str → Option Value} {dp un : Nat} {gd : Option (List Code)} {cn : Str} {cs : Scope} {a : Addr} {ccd : Value} {cl : List (Str × Addr)} {outer : List Env} {A₀ : Around} {base h₀ : Heap} {L : Addr} {m : Str → Option Value} {s : Shared} {Q E : Value → Shared → Prop} {A AD S SD HL KL TR CD C1 C2 : Nat} {ea es : List DictEntry} {na ns kh kk kt kc : Nat} {hs ks ts : List Value} {tl : List (Addr × Obj)} {cp e b b0 hb bb : Int} {u1 u2 u3 u4 v1 v2 v3 : Tok} {c1a c1b c2a c2b : Value} {c1t c2t : Tok} {cnt o pl : Int} {ct ot : Tok} {G kg : Nat} {gs : List Value}
   (B : Below A₀ base outer h₀) (F : Fr h₀ L s.heap m) (X : (hd.heap_39 w.params).In h₀) (N : News h₀ L s.heap ((A, instObj 541 AD) :: (AD, dictOf ea na) :: (S, instObj 381 SD) :: (SD, dictOf es ns) :: (HL, listOf (hs).toArray kh) :: (KL, listOf (ks).toArray kk) :: (TR, listOf (ts).toArray kt) :: (CD, listOf ([.ref C1, .ref C2] : List Value).toArray kc) :: (C1, codeTup c1a c1b 2 c1t) :: (C2, codeTup c2a c2b 1 c2t) :: tl)) (T : TopL mean mg mb h₀) (hk : cs.kind = .function) (hdp : dp + 4 < recursionLimit) (hun : un + 32 < cLine)
   (ord : C1 < C2 ∧ C2 < CD ∧ CD < AD ∧ AD < A ∧ A < SD ∧ SD < S ∧ S < HL ∧ HL < KL ∧ KL < TR) (off : Off AD SD HL KL TR tl) (hA : AIs ea S CD cp e b b0 u1 u2 u3 u4) (hS : SIs es HL KL TR hb bb v1 v2 v3) (hpl : topV e b cp cnt = pl) (hcp : cp = 1 ∨ cp = 2) (hcnt : 0 ≤ b → ks[b.toNat]? = some (.int cnt ct)) (hlen : ks.length ≤ 900) (hh : hs.length ≤ 900) (ht : ts.length ≤ 900) (he : -1 ≤ e ∧ e ≤ 900) (hb1 : -1 ≤ b ∧ b ≤ 900) (hc1 : 0 ≤ b → 0 ≤ cnt ∧ cnt ≤ 2) (hp0 : 0 ≤ pl) (hp1 : pl ≤ ks.length) (hG : (G, listOf gs.toArray kg) ∈ tl) (hg2 : gs.length ≤ 2)
   (hret : ∀ h' tk' ea' es' kk' tt1 tt2 tt3 t1 t2 t3, Fr h₀ L h' m → News h₀ L h' ((A, instObj 541 AD) :: (AD, dictOf ea' na) :: (S, instObj 381 SD) :: (SD, dictOf es' ns) :: (HL, listOf (hs).toArray kh) :: (KL, listOf (putSeq ks pl (.int (gs.length : Int) tt1 :: (gs ++ [.int e u2, .int cp u1, .int b u3, .int o ot, .int (ts.length : Int) tt2, .int (hs.length : Int) tt3, .int b0 u4]))).toArray kk') :: (TR, listOf (ts).toArray kt) :: (CD, listOf ([.ref C1, .ref C2] : List Value).toArray kc) :: (C1, codeTup c1a c1b 2 c1t) :: (C2, codeTup c2a c2b 1 c2t) :: tl) → AIs ea' S CD cp e pl b0 u1 u2 t1 u4 → SIs es' HL KL TR (hs.length : Int) pl t2 t3 v3 → Q .none { s with heap := h', toks := tk' }) :
    wpAny (model PySem.Challenge.rw_rh0105_01.row.prog w) (ktrTop dp un gd cn cs L a ccd cl outer) (call (.ref 489) [.ref A, .ref G, .int o ot]) Q E s := by
  obtain ⟨o1, o2, o3, o4, o5, o6, o7, o8, o9⟩ := ord
  obtain ⟨offA, offS, offH, offK, offT⟩ := off
  refine wpAny_call ?_
  k_dflt (refine' code_def (binds := [(Str.ofString "self", .ref A), (Str.ofString "cells", .ref G), (Str.ofString "alternative", .int o ot)]) ?k1 ?k2 ?k3 ?k4 ?k5 ?kA ?kF ?kK ?k6 ?k7 ?k8 ?k9 ?kB ?_ ?c2 ?c3 ?c4 ?c5; walk_at "My enter")
  k_steps
  (rename Fr _ _ _ _ => lF'); (with_unfolding_all refine' For_invVF lF' ?k1 ?k2 ?_; (case k1 => exact rfl); (case k2 => exact rfl); k_whole)
  walk1
  rename News _ _ _ _ => lN'
  rename List Value => ks1
  k_dflt (refine' my_list (σ := Nat × Nat × Tok) (fun c => ((A, instObj 541 AD) :: (AD, dictOf ea na) :: (S, instObj 381 SD) :: (SD, dictOf es ns) :: (HL, listOf (hs).toArray kh) :: (KL, listOf (putSeq ks1 (pl + 1) (gs.take c.1)).toArray c.2.1) :: (TR, listOf (ts).toArray kt) :: (CD, listOf ([.ref C1, .ref C2] : List Value).toArray kc) :: (C1, codeTup c1a c1b 2 c1t) :: (C2, codeTup c2a c2b 1 c2t) :: tl)) (fun c => [(Str.ofString "at", .int (pl + (c.1 : Int)) c.2.2)]) [] (fun i c => c.1 = i) (0, _, _) rfl ?hl lF' lN' rfl ?hk ?turn ?done)
  case hl => walk_at "My mem"
  case hk => (intro p hp; rw [List.mem_singleton.mp hp]; exact congrArg (fun z => some (Value.int z _)) (Int.add_zero _).symm)
  case turn =>
    rintro i v ⟨j, kk9, t9⟩ u h tk own hv hj hoff F9 N9
    dsimp only at hj N9 F9
    subst hj
    have hjl : j < gs.length := (List.getElem?_eq_some_iff.mp hv).1
    simp only [List.cons_append] at N9
    have hL := length_putSeq (gs.take j) ks1 (pl + 1) (by omega) (by omega)
    rw [List.length_take] at hL
    simp only [List.map_cons] at hoff
    have offA9 := off_app offA hoff (List.mem_of_elem_eq_true (by simp))
    have offS9 := off_app offS hoff (List.mem_of_elem_eq_true (by simp))
    have offH9 := off_app offH hoff (List.mem_of_elem_eq_true (by simp))
    have offK9 := off_app offK hoff (List.mem_of_elem_eq_true (by simp))
    have offT9 := off_app offT hoff (List.mem_of_elem_eq_true (by simp))
    clear lF' lN'
    refine post_gen fun QQ hQQ => ?_
    k_steps
    rename News _ _ _ _ => N9
    rename _ = putAt _ _ _ => eK2
    refine hQQ _ _ ?_
    refine' ls_end (j + 1, _, ?t) (by assumption) (news_ks N9 (eK2.trans ((putAt_congr rfl (by omega)).trans (seq_take hv)))) core_sub core_own hoff rfl ?hk ?hr ?hZ
    case hk =>
      have e9 : pl + (j : Int) + 1 = pl + ((j + 1 : Nat) : Int) := by omega
      intro p hp; rw [List.mem_singleton.mp hp]; exact congrArg (fun z => some (Value.int z _)) e9
    case hr =>
      intro z h1 h2 _
      have h3 := h2 _ (List.mem_singleton.mpr rfl)
      dsimp only at h3 ⊢
      rw [if_neg h3, if_neg h1]
      unfold kstB
      rw [if_neg h3]; rfl
    case hZ => walk_at "My mem"
  case done =>
    rintro ⟨j, kk9, t9⟩ u h tk hj F9 N9
    dsimp only at hj N9 F9
    subst hj
    simp only [List.take_length] at N9
    have hL := length_putSeq gs ks1 (pl + 1) (by omega) (by omega)
    clear lF' lN'
    dsimp only
    k_steps
    walk_at "My subst"
    rename News _ _ _ _ => N9
    rename SIs _ _ _ _ _ _ _ _ _ => hS9
    exact hret _ _ _ _ _ _ _ _ _ _ _ (by assumption) (news_ks N9 (by (rw [seq_cons, seq_append]; (simp only [seq_cons]); (repeat' (first | exact rfl | refine putAt_congr ?_ ?_ | omega))))) (by walk_at "My A") (hS9.cast (by omega) (by omega))



end
section
local macro_rules | `(tactic| walk_at "My enter") => `(tactic| ((case kA => exact rfl); (case kF => exact rfl); (case kK => assumption); (case k1 => k_asm); (case k2 => k_asm); (case k3 => k_asm); (case k4 => k_asm); (case k5 => k_asm); (case k6 => k_is); (case k7 => k_is); (case k8 => ktr_room); (case k9 => exact BindsTo.of_eq rfl); (case c5 => decide); (case kB => exact locs rfl); (case c2 => exact rfl); (case c3 => exact rfl); (case c4 => exact rfl); k_whole; intro g' L' h' FG' F' N' B' X' T'; (try dsimp only); (try k_fold)))
local macro_rules | `(tactic| walk_at "My A") => `(tactic| first | with_reducible assumption | exact AIs.set_e (by walk_at "My A") | exact AIs.set_b (by walk_at "My A") | exact AIs.set_cp (by walk_at "My A") | exact AIs.set_b0 (by walk_at "My A"))
local macro_rules | `(tactic| walk_at "My S") => `(tactic| first | with_reducible assumption | exact SIs.set_hb (by walk_at "My S") | exact SIs.set_bb (by walk_at "My S"))
local macro_rules | `(tactic| k_get) => `(tactic| first
  | exact SIs.stack (by walk_at "My S") | exact SIs.heap (by walk_at "My S") | exact SIs.trail (by walk_at "My S") | exact SIs.hb (by walk_at "My S") | exact SIs.bb (by walk_at "My S") | exact SIs.max_heap (by walk_at "My S")
  | exact SIs.stack_put (by walk_at "My S") | exact SIs.mark (by walk_at "My S") | exact SIs.push (by walk_at "My S") | exact SIs.new_var (by walk_at "My S") | exact SIs.bind (by walk_at "My S")
  | exact AIs.code (by walk_at "My A") | exact AIs.store (by walk_at "My A") | exact AIs.cp (by walk_at "My A") | exact AIs.e (by walk_at "My A") | exact AIs.b (by walk_at "My A") | exact AIs.b0 (by walk_at "My A")
  | exact AIs.top (by walk_at "My A") | exact AIs.set_choice (by walk_at "My A") | exact AIs.push_environment (by walk_at "My A") | exact AIs.push_choice (by walk_at "My A") | exact AIs.choice_part (by walk_at "My A") | exact AIs.cut_back (by walk_at "My A") | exact AIs.choices (by walk_at "My A"))
local macro_rules | `(tactic| walk_at "My mem") => `(tactic| first | exact List.Mem.head _ | (refine' List.Mem.tail _ ?_; walk_at "My mem") | assumption)
local macro_rules | `(tactic| k_all) => `(tactic| with_reducible assumption)
local macro_rules | `(tactic| walk_at "call builtin:len") => `(tactic| (k_here; (with_reducible show wpAny _ _ (call (Value.builtin "len") [Value.ref _]) _ _ _); k_dflt (refine' m_len ?k1 ?k2 ?k3 ?_; (case k1 => k_asm); (case k2 => walk_at "My mem"); (case k3 => omega); k_whole)))
local macro_rules | `(tactic| walk_at "setItem ref int") => `(tactic| (k_here; k_dflt (refine' m_set ?k1 ?k2 ?k3 ?k4 ?k5 ?k6 ?_; (case k1 => k_asm); (case k2 => k_asm); (case k6 => k_upd); (case k3 => omega); (case k4 => omega); (case k5 => omega); k_whole; intro h' F' N'; (try k_sweep))))
local macro_rules | `(tactic| walk_at "call builtin:list.append") => `(tactic| (k_here; k_dflt (refine' m_append ?k1 ?k2 ?k3 ?k4 ?_; (case k1 => k_asm); (case k2 => k_asm); (case k4 => k_upd); (case k3 => omega); k_whole; intro h' F' N'; (try k_sweep))))
local macro_rules | `(tactic| walk_at "WhlIf") => `(tactic| (first | (refine WhlIf.yes (decide_eq_true (by omega)) ?_) | (refine WhlIf.no (decide_eq_false (by omega)) ?_)))
local macro_rules | `(tactic| walk_at "My fit") => `(tactic| first | omega | ((try simp only [List.length_cons, List.length_nil, List.length_append, List.length_map]); omega))
local macro_rules | `(tactic| walk_at "My at") => `(tactic| first | with_reducible assumption | rfl | (refine' (show 0 ≤ (_ : Int) → (_ : Option Value) = some _ from by with_reducible assumption) ?_; omega))
local macro_rules | `(tactic| walk_at "subscriptTail") => `(tactic| (k_here; (with_reducible show wpAny _ _ (subscriptTail _ _ (Value.ref _) (Value.int _ _)) _ _ _); k_dflt (first
  | (refine' m_itemV ?k1 ?k2 ?k3 ?k4 ?k5 ?_; (case k1 => k_asm); (case k2 => walk_at "My mem"); (case k3 => omega); (case k4 => walk_at "My fit"); (case k5 => walk_at "My at"); k_whole)
  | (refine' m_tupV ?k1 ?k2 ?k3 ?k4 ?k5 ?_; (case k1 => k_asm); (case k2 => walk_at "My mem"); (case k3 => omega); (case k4 => walk_at "My fit"); (case k5 => walk_at "My at"); k_whole))))
local macro_rules | `(tactic| walk_at "setAttr ref") => `(tactic| (k_here; k_dflt (refine' m_setattr ?k1 ?k2 ?k3 ?k4 ?k5 ?k6 ?k7 ?k8 ?k9 ?k10 ?k11 ?k12 ?_; (case k1 => k_asm); (case k2 => k_asm); (case k3 => k_asm); (case k4 => k_inst); (case k5 => exact rfl); (case k6 => k_is); (case k7 => k_is); (case k8 => k_is); (case k9 => k_is); (case k10 => k_get); (case k11 => (intro t'; k_upd)); (case k12 => first | exact AIs.len (by walk_at "My A") | exact SIs.len (by walk_at "My S")); k_whole; intro t' tk' h' F' N'; (try dsimp only at N'); (try dsimp only); (try k_sweep))))
local macro_rules | `(tactic| walk_at "getAttr ref") => `(tactic| (k_here; k_dflt (refine' m_getattr ?k1 ?k2 ?k3 ?k4 ?k5 ?k6 ?k7 ?k8 ?k9 ?_; (case k1 => k_asm); (case k2 => k_asm); (case k3 => k_inst); (case k4 => k_is); (case k5 => k_is); (case k6 => k_is); (case k7 => k_is); (case k8 => k_get); (case k9 => k_handed); k_whole; intro tk'; (try dsimp only))))
local macro_rules | `(tactic| walk_at "My call") => `(tactic| ((case B => k_asm); (case F => k_asm); (case X => k_asm); (case N => first | k_asm | exact rot1 (by k_asm) | exact rot2 (by k_asm) | exact rot3 (by k_asm)); (case T => k_asm); (case hk => first | exact rfl | assumption); (case ord => omega); (case off => exact ⟨by k_all, by k_all, by k_all, by k_all, by k_all⟩); (case hA => walk_at "My A"); (case hS => walk_at "My S"); (case hdp => ktr_room); (case hun => ktr_units)))
theorem pk_div {a f : Int} (h : 0 ≤ a) (hf : 1 ≤ f) : 0 ≤ a.fdiv f := by
  rw [Int.fdiv_eq_ediv_of_nonneg _ (by omega)]
  exact Int.ediv_nonneg h (by omega)
theorem pk_mod0 {a f : Int} (hf : 1 ≤ f) : 0 ≤ a.fmod f := by
  rw [Int.fmod_eq_emod_of_nonneg _ (by omega)]
  exact Int.emod_nonneg _ (by omega)
theorem pk_mod1 {a f : Int} (hf : 1 ≤ f) : a.fmod f < f := by
  rw [Int.fmod_eq_emod_of_nonneg _ (by omega)]
  exact Int.emod_lt_of_pos _ (by omega)
set_option maxHeartbeats 8000000 in
theorem c_pick {w : World} {mean : ExcName → Option Value} {mg mb : Str → Option Value} {dp un : Nat} {gd : Option (List Code)} {cn : Str} {cs : Scope} {a : Addr} {ccd : Value} {cl : List (Str × Addr)} {outer : List Env} {A₀ : Around} {base h₀ : Heap} {L : Addr} {m : Str → Option Value} {s : Shared} {Q E : Value → Shared → Prop} {UR UL : Nat} {x z f : Int} {tx tz ft : Tok} {k ku : Nat} {us : List Value} {ns : List Int} {tl : List (Addr × Obj)}
  (B : Below A₀ base outer h₀) (F : Fr h₀ L s.heap m) (X : (hd.heap_39 w.params).In h₀) (N : News h₀ L s.heap ((UR, listOf ([.int x tx, .ref UL, .int z tz] : List Value).toArray k) :: (UL, listOf us.toArray ku) :: tl)) (T : TopL mean mg mb h₀) (hk : cs.kind = .function) (hdp : dp + 3 < recursionLimit) (hun : un + 24 < cLine)
  (o1 : UL < UR) (offU : ∀ p ∈ tl, p.1 ≠ UR) (hx : 0 ≤ x) (hz : 0 ≤ z) (hz1 : z ≤ 100) (hf1 : 1 ≤ f) (hf2 : f ≤ 1000000000) (hI : IntsAre us ns) (hns : ns.length ≤ 100)
  (hret : ∀ h' tk' k' x' z' t1 t2 t3, Fr h₀ L h' m → News h₀ L h' ((UR, listOf ([.int x' t1, .ref UL, .int z' t2] : List Value).toArray k') :: (UL, listOf us.toArray ku) :: tl) → 0 ≤ x' → 0 ≤ z' → z' ≤ 100 → ∀ r, 0 ≤ r → r < f → Q (.int r t3) { s with heap := h', toks := tk' }) :
   wpAny (model PySem.Challenge.rw_rh0105_01.row.prog w) (ktrTop dp un gd cn cs L a ccd cl outer) (call (.ref 552) [.ref UR, .int f ft]) Q E s := by
  refine wpAny_call ?_
  k_dflt (refine' code_def (binds := [(Str.ofString "urn", .ref UR), (Str.ofString "faces", .int f ft)]) ?k1 ?k2 ?k3 ?k4 ?k5 ?kA ?kF ?kK ?k6 ?k7 ?k8 ?k9 ?kB ?_ ?c2 ?c3 ?c4 ?c5; walk_at "My enter")
  k_steps
  all_goals (rename News _ _ _ _ => N9)
  · exact hret _ _ _ _ _ _ _ _ (by assumption) N9 (pk_div (by split <;> omega) hf1) (by omega) (by omega) _ (pk_mod0 hf1) (pk_mod1 hf1)
  · exact hret _ _ _ _ _ _ _ _ (by assumption) N9 (pk_div hx hf1) hz hz1 _ (pk_mod0 hf1) (pk_mod1 hf1)
  · exact hret _ _ _ _ _ _ _ _ (by assumption) N9 (pk_div hx hf1) hz hz1 _ (pk_mod0 hf1) (pk_mod1 hf1)
theorem upd_two {h₀ h : Heap} {L d : Addr} {o q : Obj} {news : List (Addr × Obj)} {nf : Obj → List (Addr × Obj)} {b : Addr × Obj} (U : UpdF d o news nf) (N : News h₀ L h news) (hb : b ∈ news) (hne : b.1 ≠ d) : ∃ tl : List (Addr × Obj), News h₀ L h ((d, o) :: b :: tl) ∧ (∀ p ∈ tl, p.1 ≠ d) ∧ ∀ h' o', News h₀ L h' ((d, o') :: b :: tl) → News h₀ L h' (nf o') := by
  obtain ⟨pre, post, rfl, hg, h1, h2⟩ := U.split
  refine ⟨pre ++ post, ?_, ?_, ?_⟩
  · intro p hp
    rcases List.mem_cons.mp hp with rfl | hp
    · exact N _ (List.mem_append.mpr (.inr (.head _)))
    · rcases List.mem_cons.mp hp with rfl | hp
      · exact N _ hb
      · rcases List.mem_append.mp hp with hp | hp
        · exact N _ (List.mem_append.mpr (.inl hp))
        · exact N _ (List.mem_append.mpr (.inr (.tail _ hp)))
  · intro p hp
    rcases List.mem_append.mp hp with hp | hp
    · exact h1 p hp
    · exact h2 p hp
  · intro h' o' N' p hp
    rw [hg] at hp
    rcases List.mem_append.mp hp with hp | hp
    · exact N' _ (.tail _ (.tail _ (List.mem_append.mpr (.inl hp))))
    · rcases List.mem_cons.mp hp with rfl | hp
      · exact N' _ (.head _)
      · exact N' _ (.tail _ (.tail _ (List.mem_append.mpr (.inr hp))))
theorem c_pickU {w : World} {mean : ExcName → Option Value} {mg mb : Str → Option Value} {dp un : Nat} {gd : Option (List Code)} {cn : Str} {cs : Scope} {a : Addr} {ccd : Value} {cl : List (Str × Addr)} {outer : List Env} {A₀ : Around} {base h₀ : Heap} {L : Addr} {m : Str → Option Value} {s : Shared} {Q E : Value → Shared → Prop} {UR UL : Nat} {x z f : Int} {tx tz ft : Tok} {k ku : Nat} {us : List Value} {ns : List Int} {news : List (Addr × Obj)} {nf : Obj → List (Addr × Obj)}
  (B : Below A₀ base outer h₀) (F : Fr h₀ L s.heap m) (X : (hd.heap_39 w.params).In h₀) (N : News h₀ L s.heap news) (T : TopL mean mg mb h₀) (hk : cs.kind = .function) (hdp : dp + 3 < recursionLimit) (hun : un + 24 < cLine)
  (U : UpdF UR (listOf ([.int x tx, .ref UL, .int z tz] : List Value).toArray k) news nf) (hUL : (UL, listOf us.toArray ku) ∈ news)
  (o1 : UL < UR) (hx : 0 ≤ x) (hz : 0 ≤ z) (hz1 : z ≤ 100) (hf1 : 1 ≤ f) (hf2 : f ≤ 1000000000) (hI : IntsAre us ns) (hns : ns.length ≤ 100)
  (hret : ∀ h' tk' k' x' z' t1 t2 t3 r, Fr h₀ L h' m → News h₀ L h' (nf (listOf ([.int x' t1, .ref UL, .int z' t2] : List Value).toArray k')) → 0 ≤ x' → 0 ≤ z' → z' ≤ 100 → 0 ≤ r → r < f → Q (.int r t3) { s with heap := h', toks := tk' }) :
   wpAny (model PySem.Challenge.rw_rh0105_01.row.prog w) (ktrTop dp un gd cn cs L a ccd cl outer) (call (.ref 552) [.ref UR, .int f ft]) Q E s := by
  obtain ⟨tl, N1, h1, h2⟩ := upd_two (q := default) U N hUL (Nat.ne_of_lt o1)
  exact c_pick B F X N1 T hk hdp hun o1 h1 hx hz hz1 hf1 hf2 hI hns fun h' tk' k' x' z' t1 t2 t3 F' N' a1 a2 a3 r a4 a5 => hret h' tk' k' x' z' t1 t2 t3 r F' (h2 _ _ N') a1 a2 a3 a4 a5

end
section
def SameV (x y : Value) : Prop := x = y ∨ ∃ i t u, x = .int i t ∧ y = .int i u
theorem SameV.eqAt {A : Around} {s : Shared} {x y : Value} (h : SameV x y) : PySem.SeqAt.EqAt A s x y true := by
  rcases h with rfl | ⟨i, t, u, rfl, rfl⟩
  · exact PySem.SeqAt.EqAt.same x
  · have := PySem.SeqAt.EqAt.int_int (A := A) (s := s) i t i u
    simpa using this
inductive SameL : List Value → List Value → Prop
  | nil : SameL [] []
  | cons {x y : Value} {xs ys : List Value} : SameV x y → SameL xs ys → SameL (x :: xs) (y :: ys)
theorem SameL.length : ∀ {xs ys : List Value}, SameL xs ys → xs.length = ys.length
  | _, _, .nil => rfl
  | _, _, .cons _ h => by rw [List.length_cons, List.length_cons, h.length]
theorem SameL.at : ∀ {xs ys : List Value}, SameL xs ys → ∀ j (h1 : j < xs.length) (h2 : j < ys.length), SameV xs[j] ys[j]
  | _, _, .nil, j, h1, _ => absurd h1 (Nat.not_lt_zero _)
  | _, _, .cons h r, 0, _, _ => h
  | _, _, .cons h r, j + 1, h1, h2 => r.at j (Nat.lt_of_succ_lt_succ h1) (Nat.lt_of_succ_lt_succ h2)
theorem SameL.refl : ∀ xs : List Value, SameL xs xs
  | [] => .nil
  | _ :: r => .cons (.inl rfl) (SameL.refl r)
theorem SameL.ints : ∀ {xs ys : List Value} {ns : List Int}, IntsAre xs ns → IntsAre ys ns → SameL xs ys
  | _, _, _, .nil, .nil => .nil
  | _, _, _, .cons n t h, .cons _ u k => .cons (.inr ⟨n, t, u, rfl, rfl⟩) (SameL.ints h k)
theorem SameL.append : ∀ {xs ys us vs : List Value}, SameL xs ys → SameL us vs → SameL (xs ++ us) (ys ++ vs)
  | _, _, _, _, .nil, k => k
  | _, _, _, _, .cons h r, k => .cons h (r.append k)
section
variable {prog : Program} {w : World} {A : Around} {E : Value → Shared → Prop} {s : Shared} {h₀ : Heap} {L : Addr} {news : List (Addr × Obj)}
theorem all_tt : ∀ n : Nat, (List.range n).all (fun _ => true) = true := fun n => by simp
theorem m_eqL {a b : Addr} {xs ys : List Value} {Q : Value → Shared → Prop} (ha : s.heap.IsList a xs.toArray) (hb : s.heap.IsList b ys.toArray) (hs : SameL xs ys) (hu : A.units < cLine) (h : Q (.bool true) s) :
    wpAny (model prog w) A (compareOp .Eq (.ref a) (.ref b)) Q E s := by
  refine PySem.SeqAt.eq_listAt (e := fun _ => true) ha hb (by simpa using hs.length) hu (fun j h1 h2 => ?_) (by rw [all_tt]; exact h)
  have := (hs.at j (by simpa using h1) (by simpa using h2)).eqAt (A := A.in1) (s := s)
  simpa using this
theorem m_neL {a b : Addr} {xs ys : List Value} {Q : Value → Shared → Prop} (ha : s.heap.IsList a xs.toArray) (hb : s.heap.IsList b ys.toArray) (hs : SameL xs ys) (hu : A.units < cLine) (h : Q (.bool false) s) :
    wpAny (model prog w) A (compareOp .NotEq (.ref a) (.ref b)) Q E s := by
  refine PySem.SeqAt.RcNeAt.lists (e := fun _ => true) ha hb (by simpa using hs.length) hu (fun j h1 h2 => ?_) prog w E Q (by rw [all_tt]; exact h)
  have := (hs.at j (by simpa using h1) (by simpa using h2)).eqAt (A := A.in1) (s := s)
  simpa using this
theorem m_ne3 {a b a1 a2 a3 b1 b2 b3 : Addr} {x1 x2 x3 y1 y2 y3 : List Value} {Q : Value → Shared → Prop} (ha : s.heap.IsList a ([.ref a1, .ref a2, .ref a3] : List Value).toArray) (hb : s.heap.IsList b ([.ref b1, .ref b2, .ref b3] : List Value).toArray)
    (h1 : s.heap.IsList a1 x1.toArray) (h2 : s.heap.IsList a2 x2.toArray) (h3 : s.heap.IsList a3 x3.toArray) (k1 : s.heap.IsList b1 y1.toArray) (k2 : s.heap.IsList b2 y2.toArray) (k3 : s.heap.IsList b3 y3.toArray)
    (s1 : SameL x1 y1) (s2 : SameL x2 y2) (s3 : SameL x3 y3) (n1 : a1 ≠ b1) (n2 : a2 ≠ b2) (n3 : a3 ≠ b3) (hu : A.units + 4 < cLine) (h : Q (.bool false) s) :
    wpAny (model prog w) A (compareOp .NotEq (.ref a) (.ref b)) Q E s := by
  have one : ∀ {a b : Addr} {xs ys : List Value}, s.heap.IsList a xs.toArray → s.heap.IsList b ys.toArray → SameL xs ys → a ≠ b → PySem.SeqAt.EqAt A.in1 s (.ref a) (.ref b) true := by
    intro a b xs ys ha hb hs hne
    refine PySem.SeqAt.EqAt.of_refs hne ?_
    have z := PySem.SeqAt.RcAt.lists (A := A.in1) (s := s) (e := fun _ => true) ha hb (by simpa using hs.length) (by rw [units_in1]; omega) (fun j h1 h2 => by
      have := (hs.at j (by simpa using h1) (by simpa using h2)).eqAt (A := A.in1.in1) (s := s)
      simpa using this)
    rw [all_tt] at z; exact z
  refine PySem.SeqAt.RcNeAt.lists (e := fun _ => true) ha hb rfl (by omega) (fun j g1 g2 => ?_) prog w E Q (by rw [all_tt]; exact h)
  have g3 : j < 3 := g1
  match j, g3 with
  | 0, _ => exact one h1 k1 s1 n1
  | 1, _ => exact one h2 k2 s2 n2
  | 2, _ => exact one h3 k3 s3 n3
end

end
section
def Halt (P : Prop) : Prop := P
theorem halt {P : Prop} (h : Halt P) : P := h
inductive Chain (ks : List Value) : Int → List Int → Prop
  | nil {b : Int} : b < 0 → Chain ks b []
  | cons {b cnt prev : Int} {ct pt : Tok} {cs : List Int} : 0 ≤ b → b ≤ 900 → 0 ≤ cnt → cnt ≤ 2 → ks[b.toNat]? = some (.int cnt ct) → ks[(b + cnt + 3).toNat]? = some (.int prev pt) → Chain ks prev cs → Chain ks b (b :: cs)
theorem allLt_mem {d : Nat} : ∀ {l : List (Addr × Obj)}, AllLt d l → ∀ p ∈ l, p.1 < d
  | [], _, p, hp => nomatch hp
  | q :: r, h, p, hp => by
    rcases List.mem_cons.mp hp with rfl | hp
    · exact h.1
    · exact allLt_mem h.2 p hp

local macro_rules | `(tactic| walk_at "My enter") => `(tactic| ((case kA => exact rfl); (case kF => exact rfl); (case kK => assumption); (case k1 => k_asm); (case k2 => k_asm); (case k3 => k_asm); (case k4 => k_asm); (case k5 => k_asm); (case k6 => k_is); (case k7 => k_is); (case k8 => ktr_room); (case k9 => exact BindsTo.of_eq rfl); (case c5 => decide); (case kB => exact locs rfl); (case c2 => exact rfl); (case c3 => exact rfl); (case c4 => exact rfl); k_whole; intro g' L' h' FG' F' N' B' X' T'; (try dsimp only); (try k_fold)))
local macro_rules | `(tactic| walk_at "My A") => `(tactic| first | with_reducible assumption | exact AIs.set_e (by walk_at "My A") | exact AIs.set_b (by walk_at "My A") | exact AIs.set_cp (by walk_at "My A") | exact AIs.set_b0 (by walk_at "My A"))
local macro_rules | `(tactic| walk_at "My S") => `(tactic| first | with_reducible assumption | exact SIs.set_hb (by walk_at "My S") | exact SIs.set_bb (by walk_at "My S"))
local macro_rules | `(tactic| k_get) => `(tactic| first
  | exact SIs.stack (by walk_at "My S") | exact SIs.heap (by walk_at "My S") | exact SIs.trail (by walk_at "My S") | exact SIs.hb (by walk_at "My S") | exact SIs.bb (by walk_at "My S") | exact SIs.max_heap (by walk_at "My S")
  | exact SIs.stack_put (by walk_at "My S") | exact SIs.mark (by walk_at "My S") | exact SIs.push (by walk_at "My S") | exact SIs.new_var (by walk_at "My S") | exact SIs.bind (by walk_at "My S")
  | exact AIs.code (by walk_at "My A") | exact AIs.store (by walk_at "My A") | exact AIs.cp (by walk_at "My A") | exact AIs.e (by walk_at "My A") | exact AIs.b (by walk_at "My A") | exact AIs.b0 (by walk_at "My A")
  | exact AIs.top (by walk_at "My A") | exact AIs.set_choice (by walk_at "My A") | exact AIs.push_environment (by walk_at "My A") | exact AIs.push_choice (by walk_at "My A") | exact AIs.choice_part (by walk_at "My A") | exact AIs.cut_back (by walk_at "My A") | exact AIs.choices (by walk_at "My A"))
local macro_rules | `(tactic| walk_at "My mem") => `(tactic| first | exact List.Mem.head _ | (refine' List.Mem.tail _ ?_; walk_at "My mem") | assumption)
local macro_rules | `(tactic| k_all) => `(tactic| with_reducible assumption)
local macro_rules | `(tactic| walk_at "call builtin:len") => `(tactic| (k_here; (with_reducible show wpAny _ _ (call (Value.builtin "len") [Value.ref _]) _ _ _); k_dflt (refine' m_len ?k1 ?k2 ?k3 ?_; (case k1 => k_asm); (case k2 => walk_at "My mem"); (case k3 => omega); k_whole)))
local macro_rules | `(tactic| walk_at "setItem ref int") => `(tactic| (k_here; k_dflt (refine' m_set ?k1 ?k2 ?k3 ?k4 ?k5 ?k6 ?_; (case k1 => k_asm); (case k2 => k_asm); (case k6 => k_upd); (case k3 => omega); (case k4 => omega); (case k5 => omega); k_whole; intro h' F' N'; (try k_sweep))))
local macro_rules | `(tactic| walk_at "call builtin:list.append") => `(tactic| (k_here; k_dflt (refine' m_append ?k1 ?k2 ?k3 ?k4 ?_; (case k1 => k_asm); (case k2 => k_asm); (case k4 => k_upd); (case k3 => omega); k_whole; intro h' F' N'; (try k_sweep))))
local macro_rules | `(tactic| walk_at "WhlIf") => `(tactic| (first | (refine WhlIf.yes (decide_eq_true (by omega)) ?_) | (refine WhlIf.no (decide_eq_false (by omega)) ?_)))
local macro_rules | `(tactic| walk_at "My fit") => `(tactic| first | omega | ((try simp only [List.length_cons, List.length_nil, List.length_append, List.length_map]); omega))
local macro_rules | `(tactic| walk_at "My at") => `(tactic| first | with_reducible assumption | rfl | (refine' (show 0 ≤ (_ : Int) → (_ : Option Value) = some _ from by with_reducible assumption) ?_; omega))
local macro_rules | `(tactic| walk_at "subscriptTail") => `(tactic| (k_here; (with_reducible show wpAny _ _ (subscriptTail _ _ (Value.ref _) (Value.int _ _)) _ _ _); k_dflt (first
  | (refine' m_itemV ?k1 ?k2 ?k3 ?k4 ?k5 ?_; (case k1 => k_asm); (case k2 => walk_at "My mem"); (case k3 => omega); (case k4 => walk_at "My fit"); (case k5 => walk_at "My at"); k_whole)
  | (refine' m_tupV ?k1 ?k2 ?k3 ?k4 ?k5 ?_; (case k1 => k_asm); (case k2 => walk_at "My mem"); (case k3 => omega); (case k4 => walk_at "My fit"); (case k5 => walk_at "My at"); k_whole))))
local macro_rules | `(tactic| walk_at "setAttr ref") => `(tactic| (k_here; k_dflt (refine' m_setattr ?k1 ?k2 ?k3 ?k4 ?k5 ?k6 ?k7 ?k8 ?k9 ?k10 ?k11 ?k12 ?_; (case k1 => k_asm); (case k2 => k_asm); (case k3 => k_asm); (case k4 => k_inst); (case k5 => exact rfl); (case k6 => k_is); (case k7 => k_is); (case k8 => k_is); (case k9 => k_is); (case k10 => k_get); (case k11 => (intro t'; k_upd)); (case k12 => first | exact AIs.len (by walk_at "My A") | exact SIs.len (by walk_at "My S")); k_whole; intro t' tk' h' F' N'; (try dsimp only at N'); (try dsimp only); (try k_sweep))))
local macro_rules | `(tactic| walk_at "getAttr ref") => `(tactic| (k_here; k_dflt (refine' m_getattr ?k1 ?k2 ?k3 ?k4 ?k5 ?k6 ?k7 ?k8 ?k9 ?_; (case k1 => k_asm); (case k2 => k_asm); (case k3 => k_inst); (case k4 => k_is); (case k5 => k_is); (case k6 => k_is); (case k7 => k_is); (case k8 => k_get); (case k9 => k_handed); k_whole; intro tk'; (try dsimp only))))
local macro_rules | `(tactic| walk_at "My call") => `(tactic| ((case B => k_asm); (case F => k_asm); (case X => k_asm); (case N => first | k_asm | exact rot1 (by k_asm) | exact rot2 (by k_asm) | exact rot3 (by k_asm)); (case T => k_asm); (case hk => first | exact rfl | assumption); (case ord => omega); (case off => exact ⟨by k_all, by k_all, by k_all, by k_all, by k_all⟩); (case hA => walk_at "My A"); (case hS => walk_at "My S"); (case hdp => ktr_room); (case hun => ktr_units)))
local macro_rules | `(tactic| k_mem) => `(tactic| walk_at "My mem")

local macro_rules | `(tactic| walk_at "exec While") => `(tactic| refine halt ?_)
local macro_rules | `(tactic| walk_at "exec For") => `(tactic| refine halt ?_)

set_option maxHeartbeats 8000000 in
theorem c_choices {w : World} {mean : ExcName → Option Value} {mg mb : Str → Option Value} {dp un : Nat} {gd : Option (List Code)} {cn : Str} {cs : Scope} {a : Addr} {ccd : Value} {cl : List (Str × Addr)} {outer : List Env} {A₀ : Around} {base h₀ : Heap} {L : Addr} {m : Str → Option Value} {s : Shared} {Q E : Value → Shared → Prop} {A AD S SD HL KL TR CD : Nat} {ea es : List DictEntry} {na ns kk : Nat} {ks : List Value} {news : List (Addr × Obj)} {cp e b b0 hb bb : Int} {u1 u2 u3 u4 v1 v2 v3 : Tok} {csn : List Int}
   (B : Below A₀ base outer h₀) (F : Fr h₀ L s.heap m) (X : (hd.heap_39 w.params).In h₀) (N : News h₀ L s.heap news) (T : TopL mean mg mb h₀) (hk : cs.kind = .function) (hdp : dp + 4 < recursionLimit) (hun : un + 32 < cLine)
   (mA : (A, instObj 541 AD) ∈ news) (mAD : (AD, dictOf ea na) ∈ news) (mS : (S, instObj 381 SD) ∈ news) (mSD : (SD, dictOf es ns) ∈ news) (mK : (KL, listOf ks.toArray kk) ∈ news) (hA : AIs ea S CD cp e b b0 u1 u2 u3 u4) (hS : SIs es HL KL TR hb bb v1 v2 v3) (hch : Chain ks b csn) (hlen : ks.length ≤ 1000) (hcl : csn.length ≤ 100)
   (hret : ∀ h' tk' D vs kd, Fr h₀ L h' m → News h₀ L h' ((D, listOf (vs : List Value).toArray kd) :: news) → IntsAre vs csn → (∀ p ∈ news, p.1 < D) → Q (.ref D) { s with heap := h', toks := tk' }) :
    wpAny (model PySem.Challenge.rw_rh0105_01.row.prog w) (ktrTop dp un gd cn cs L a ccd cl outer) (call (.ref 531) [.ref A]) Q E s := by
  refine wpAny_call ?_
  k_dflt (refine' code_def (binds := [(Str.ofString "self", .ref A)]) ?k1 ?k2 ?k3 ?k4 ?k5 ?kA ?kF ?kK ?k6 ?k7 ?k8 ?k9 ?kB ?_ ?c2 ?c3 ?c4 ?c5; walk_at "My enter")
  k_steps
  unfold Halt
  rename News _ _ _ _ => lN0
  rename Fr _ _ _ _ => lF0
  rename (∀ p : Addr × Obj, p ∈ news → p.1 < _) => l0
  have hx : ∃ D, (∀ p ∈ news, p.1 < D) ∧ News _ _ _ ((D, listOf ([] : List Value).toArray 0) :: news) ∧ Fr _ _ _ (fun y => if y = Str.ofString "b" then some (Value.int b u3) else if y = Str.ofString "found" then some (Value.ref D) else if y = Str.ofString "stack" then some (Value.ref KL) else List.lookup y [(Str.ofString "self", Value.ref A)].reverse) := ⟨_, l0, lN0, lF0⟩
  obtain ⟨D, lD, lN', lF'⟩ := hx
  clear lN0 lF0 l0
  have offD : ∀ p ∈ news, p.1 ≠ D := fun p hp => Nat.ne_of_lt (lD p hp)
  k_dflt (refine' ksw_while (σ := List Int × List Value × Nat × Int × Tok × List Int) (fun c => (D, listOf ((c.2.1 : List Value)).toArray c.2.2.1) :: news) (fun c => [(Str.ofString "b", .int c.2.2.2.1 c.2.2.2.2.1)]) (fun _ => True) [] (fun c => IntsAre c.2.1 c.1 ∧ Chain ks c.2.2.2.1 c.2.2.2.2.2 ∧ c.1 ++ c.2.2.2.2.2 = csn) (fun c => c.2.2.2.2.2.length) ([], [], 0, b, u3, csn) lF' lN' trivial ?hk ⟨.nil, hch, rfl⟩ ?turn)
  case hk => (intro p hp; rw [List.mem_singleton.mp hp]; rfl)
  case turn =>
    rintro ⟨is, vs, kd, bb, bt, rest⟩ u h tk _ hP F9 N9
    dsimp only at hP N9 F9
    obtain ⟨hI, hC, hE⟩ := hP
    clear lF' lN'
    refine post_gen fun QQ hQQ => ?_
    have hvl : vs.length = is.length := hI.length
    have hil : is.length ≤ csn.length := by rw [← hE, List.length_append]; omega
    rcases hC with hb | ⟨h0, h9, hc0, hc2, e1, e2, hC'⟩
    next =>
      k_steps
      refine hQQ _ _ ?_
      dsimp only
      rw [if_neg (by simp only [decide_eq_true_eq]; omega)]
      k_steps
      rename News _ _ _ _ => N9
      rw [List.append_nil] at hE
      subst hE
      exact hret _ _ _ _ _ (by assumption) N9 hI lD
    next =>
      k_steps
      refine hQQ _ _ ?_
      dsimp only
      rw [if_pos (by simp only [decide_eq_true_eq]; omega)]
      refine post_gen fun QR hQR => ?_
      k_steps
      rename News _ _ _ _ => N9
      refine hQR _ _ ?_
      refine' ksw_end (is ++ [bb], vs ++ [.int bb bt], _, _, _, _) (by assumption) N9 (fun p hp => hp) trivial ?hk ?hr ⟨IntsAre.append hI (.cons _ _ .nil), hC', by rw [← hE]; simp⟩ (by simp)
      case hk => (intro p hp; rw [List.mem_singleton.mp hp]; rfl)
      case hr =>
        intro z h1 _
        have h3 := h1 _ (List.mem_singleton.mpr rfl)
        dsimp only at h3 ⊢
        rw [if_neg h3]
        unfold kstB
        rw [if_neg h3]; rfl



set_option maxHeartbeats 8000000 in
theorem c_part {w : World} {mean : ExcName → Option Value} {mg mb : Str → Option Value} {dp un : Nat} {gd : Option (List Code)} {cn : Str} {cs : Scope} {a : Addr} {ccd : Value} {cl : List (Str × Addr)} {outer : List Env} {A₀ : Around} {base h₀ : Heap} {L : Addr} {m : Str → Option Value} {s : Shared} {Q E : Value → Shared → Prop} {A AD S SD HL KL TR CD : Nat} {ea es : List DictEntry} {na ns kk : Nat} {ks : List Value} {news : List (Addr × Obj)} {cp e b b0 hb bb : Int} {u1 u2 u3 u4 v1 v2 v3 : Tok} {cnt i : Int} {ct it : Tok} {v : Value}
   (B : Below A₀ base outer h₀) (F : Fr h₀ L s.heap m) (X : (hd.heap_39 w.params).In h₀) (N : News h₀ L s.heap news) (T : TopL mean mg mb h₀) (hk : cs.kind = .function) (hdp : dp + 3 < recursionLimit) (hun : un + 24 < cLine)
   (mA : (A, instObj 541 AD) ∈ news) (mAD : (AD, dictOf ea na) ∈ news) (mS : (S, instObj 381 SD) ∈ news) (mSD : (SD, dictOf es ns) ∈ news) (mK : (KL, listOf ks.toArray kk) ∈ news) (hA : AIs ea S CD cp e b b0 u1 u2 u3 u4) (hS : SIs es HL KL TR hb bb v1 v2 v3) (hb0 : 0 ≤ b) (hi : 0 ≤ i ∧ i ≤ 100) (hcnt : ks[b.toNat]? = some (.int cnt ct)) (hv : ks[(b + cnt + i).toNat]? = some v) (hlen : ks.length ≤ 1000) (hb1 : b ≤ 1000) (hc1 : 0 ≤ cnt ∧ cnt ≤ 2)
   (hret : ∀ h' tk', Fr h₀ L h' m → News h₀ L h' news → Q v { s with heap := h', toks := tk' }) :
    wpAny (model PySem.Challenge.rw_rh0105_01.row.prog w) (ktrTop dp un gd cn cs L a ccd cl outer) (call (.ref 503) [.ref A, .int i it]) Q E s := by
  refine wpAny_call ?_
  k_dflt (refine' code_def (binds := [(Str.ofString "self", .ref A), (Str.ofString "part", .int i it)]) ?k1 ?k2 ?k3 ?k4 ?k5 ?kA ?kF ?kK ?k6 ?k7 ?k8 ?k9 ?kB ?_ ?c2 ?c3 ?c4 ?c5; walk_at "My enter")
  k_steps
  all_goals (rename News _ _ _ _ => N9; exact hret _ _ (by assumption) N9)



end
section
local macro_rules | `(tactic| walk_at "My enter") => `(tactic| ((case kA => exact rfl); (case kF => exact rfl); (case kK => assumption); (case k1 => k_asm); (case k2 => k_asm); (case k3 => k_asm); (case k4 => k_asm); (case k5 => k_asm); (case k6 => k_is); (case k7 => k_is); (case k8 => ktr_room); (case k9 => exact BindsTo.of_eq rfl); (case c5 => decide); (case kB => exact locs rfl); (case c2 => exact rfl); (case c3 => exact rfl); (case c4 => exact rfl); k_whole; intro g' L' h' FG' F' N' B' X' T'; (try dsimp only); (try k_fold)))
local macro_rules | `(tactic| walk_at "My A") => `(tactic| first | with_reducible assumption | exact AIs.set_e (by walk_at "My A") | exact AIs.set_b (by walk_at "My A") | exact AIs.set_cp (by walk_at "My A") | exact AIs.set_b0 (by walk_at "My A"))
local macro_rules | `(tactic| walk_at "My S") => `(tactic| first | with_reducible assumption | exact SIs.set_hb (by walk_at "My S") | exact SIs.set_bb (by walk_at "My S"))
local macro_rules | `(tactic| k_get) => `(tactic| first
  | exact SIs.stack (by walk_at "My S") | exact SIs.heap (by walk_at "My S") | exact SIs.trail (by walk_at "My S") | exact SIs.hb (by walk_at "My S") | exact SIs.bb (by walk_at "My S") | exact SIs.max_heap (by walk_at "My S")
  | exact SIs.stack_put (by walk_at "My S") | exact SIs.mark (by walk_at "My S") | exact SIs.push (by walk_at "My S") | exact SIs.new_var (by walk_at "My S") | exact SIs.bind (by walk_at "My S")
  | exact AIs.code (by walk_at "My A") | exact AIs.store (by walk_at "My A") | exact AIs.cp (by walk_at "My A") | exact AIs.e (by walk_at "My A") | exact AIs.b (by walk_at "My A") | exact AIs.b0 (by walk_at "My A")
  | exact AIs.top (by walk_at "My A") | exact AIs.set_choice (by walk_at "My A") | exact AIs.push_environment (by walk_at "My A") | exact AIs.push_choice (by walk_at "My A") | exact AIs.choice_part (by walk_at "My A") | exact AIs.cut_back (by walk_at "My A") | exact AIs.choices (by walk_at "My A"))
local macro_rules | `(tactic| walk_at "My mem") => `(tactic| first | exact List.Mem.head _ | (refine' List.Mem.tail _ ?_; walk_at "My mem") | assumption)
local macro_rules | `(tactic| k_all) => `(tactic| with_reducible assumption)
local macro_rules | `(tactic| walk_at "call builtin:len") => `(tactic| (k_here; (with_reducible show wpAny _ _ (call (Value.builtin "len") [Value.ref _]) _ _ _); k_dflt (refine' m_len ?k1 ?k2 ?k3 ?_; (case k1 => k_asm); (case k2 => walk_at "My mem"); (case k3 => omega); k_whole)))
local macro_rules | `(tactic| walk_at "setItem ref int") => `(tactic| (k_here; k_dflt (refine' m_set ?k1 ?k2 ?k3 ?k4 ?k5 ?k6 ?_; (case k1 => k_asm); (case k2 => k_asm); (case k6 => k_upd); (case k3 => omega); (case k4 => omega); (case k5 => omega); k_whole; intro h' F' N'; (try k_sweep))))
local macro_rules | `(tactic| walk_at "call builtin:list.append") => `(tactic| (k_here; k_dflt (refine' m_append ?k1 ?k2 ?k3 ?k4 ?_; (case k1 => k_asm); (case k2 => k_asm); (case k4 => k_upd); (case k3 => omega); k_whole; intro h' F' N'; (try k_sweep))))
local macro_rules | `(tactic| walk_at "WhlIf") => `(tactic| (first | (refine WhlIf.yes (decide_eq_true (by omega)) ?_) | (refine WhlIf.no (decide_eq_false (by omega)) ?_)))
local macro_rules | `(tactic| walk_at "My fit") => `(tactic| first | omega | ((try simp only [List.length_cons, List.length_nil, List.length_append, List.length_map]); omega))
local macro_rules | `(tactic| walk_at "My at") => `(tactic| first | with_reducible assumption | rfl | (refine' (show 0 ≤ (_ : Int) → (_ : Option Value) = some _ from by with_reducible assumption) ?_; omega))
local macro_rules | `(tactic| walk_at "subscriptTail") => `(tactic| (k_here; (with_reducible show wpAny _ _ (subscriptTail _ _ (Value.ref _) (Value.int _ _)) _ _ _); k_dflt (first
  | (refine' m_itemV ?k1 ?k2 ?k3 ?k4 ?k5 ?_; (case k1 => k_asm); (case k2 => walk_at "My mem"); (case k3 => omega); (case k4 => walk_at "My fit"); (case k5 => walk_at "My at"); k_whole)
  | (refine' m_tupV ?k1 ?k2 ?k3 ?k4 ?k5 ?_; (case k1 => k_asm); (case k2 => walk_at "My mem"); (case k3 => omega); (case k4 => walk_at "My fit"); (case k5 => walk_at "My at"); k_whole))))
local macro_rules | `(tactic| walk_at "setAttr ref") => `(tactic| (k_here; k_dflt (refine' m_setattr ?k1 ?k2 ?k3 ?k4 ?k5 ?k6 ?k7 ?k8 ?k9 ?k10 ?k11 ?k12 ?_; (case k1 => k_asm); (case k2 => k_asm); (case k3 => k_asm); (case k4 => k_inst); (case k5 => exact rfl); (case k6 => k_is); (case k7 => k_is); (case k8 => k_is); (case k9 => k_is); (case k10 => k_get); (case k11 => (intro t'; k_upd)); (case k12 => first | exact AIs.len (by walk_at "My A") | exact SIs.len (by walk_at "My S")); k_whole; intro t' tk' h' F' N'; (try dsimp only at N'); (try dsimp only); (try k_sweep))))
local macro_rules | `(tactic| walk_at "getAttr ref") => `(tactic| (k_here; k_dflt (refine' m_getattr ?k1 ?k2 ?k3 ?k4 ?k5 ?k6 ?k7 ?k8 ?k9 ?_; (case k1 => k_asm); (case k2 => k_asm); (case k3 => k_inst); (case k4 => k_is); (case k5 => k_is); (case k6 => k_is); (case k7 => k_is); (case k8 => k_get); (case k9 => k_handed); k_whole; intro tk'; (try dsimp only))))
local macro_rules | `(tactic| walk_at "My call") => `(tactic| ((case B => k_asm); (case F => k_asm); (case X => k_asm); (case N => first | k_asm | exact rot1 (by k_asm) | exact rot2 (by k_asm) | exact rot3 (by k_asm)); (case T => k_asm); (case hk => first | exact rfl | assumption); (case ord => omega); (case off => exact ⟨by k_all, by k_all, by k_all, by k_all, by k_all⟩); (case hA => walk_at "My A"); (case hS => walk_at "My S"); (case hdp => ktr_room); (case hun => ktr_units)))
local macro_rules | `(tactic| k_mem) => `(tactic| walk_at "My mem")

theorem off1_mem {d : Nat} : ∀ {l : List (Addr × Obj)}, LCg.Off1 d l → ∀ p ∈ l, p.1 ≠ d
  | [], _, p, hp => nomatch hp
  | q :: r, h, p, hp => by
    rcases List.mem_cons.mp hp with rfl | hp
    · exact h.1
    · exact off1_mem h.2 p hp
theorem m_reverse {prog : Program} {w : World} {A : Around} {E : Value → Shared → Prop} {s : Shared} {h₀ : Heap} {L D : Addr} {m : Str → Option Value} {news news' : List (Addr × Obj)} {its : List Value} {n : Nat} {Q : Value → Shared → Prop} (F : Fr h₀ L s.heap m) (N : News h₀ L s.heap news) (hb : its.length < 10000)
    (U : Upd D (listOf its.toArray n) (listOf its.reverse.toArray n) news news')
    (h : ∀ h', Fr h₀ L h' m → News h₀ L h' news' → Q .none { s with heap := h' }) : wpAny (model prog w) A (call (.builtin "list.reverse") [.ref D]) Q E s :=
  kl_reverse (its := its.toArray) F N (by simp) U (by rw [sizeLine_eq]; simp; omega) h
local macro_rules | `(tactic| walk_at "call builtin:list.reverse") => `(tactic| (k_here; (try dsimp only); k_dflt (refine' m_reverse ?k1 ?k2 ?k3 ?k4 ?_; (case k1 => k_asm); (case k2 => k_asm); (case k4 => k_upd); (case k3 => omega); k_whole; intro h' F' N'; (try k_sweep))))
local macro_rules | `(tactic| walk_at "My callR") => `(tactic| ((case B => k_asm); (case F => k_asm); (case X => k_asm); (case N => k_asm); (case T => k_asm); (case hk => first | exact rfl | with_reducible assumption); (case mA => walk_at "My mem"); (case mAD => walk_at "My mem"); (case hA => walk_at "My A"); (case mS => walk_at "My mem"); (case mSD => walk_at "My mem"); (case hS => walk_at "My S"); (case mK => walk_at "My mem"); (case hdp => ktr_room); (case hun => ktr_units)))
local macro_rules | `(tactic| walk_at "call ref") => `(tactic| (k_here; (try dsimp only); (with_reducible show wpAny _ _ (call (Value.ref 531) _) _ _ _); k_dflt (refine' c_choices (B := ?B) (F := ?F) (X := ?X) (N := ?N) (T := ?T) (hk := ?hk) (hdp := ?hdp) (hun := ?hun) (mA := ?mA) (mAD := ?mAD) (mS := ?mS) (mSD := ?mSD) (mK := ?mK) (hA := ?hA) (hS := ?hS) (hch := ?z1) (hlen := ?z2) (hcl := ?z3) ?_; walk_at "My callR"; (case z1 => with_reducible assumption); (case z2 => omega); (case z3 => (simp only [List.length_reverse]; omega)); intro h' tk' D' vs' kd' F' N' hI' lD'; (try dsimp only))))
local macro_rules | `(tactic| walk_at "call ref") => `(tactic| (k_here; (try dsimp only); (with_reducible show wpAny _ _ (call (Value.ref 503) _) _ _ _); k_dflt (refine' c_part (B := ?B) (F := ?F) (X := ?X) (N := ?N) (T := ?T) (hk := ?hk) (hdp := ?hdp) (hun := ?hun) (mA := ?mA) (mAD := ?mAD) (mS := ?mS) (mSD := ?mSD) (mK := ?mK) (hA := ?hA) (hS := ?hS) (hb0 := ?z0) (hi := ?z1) (hcnt := ?z2) (hv := ?z3) (hlen := ?z4) (hb1 := ?z5) (hc1 := ?z6) ?_; walk_at "My callR"; (case z0 => omega); (case z1 => omega); (case z2 => with_reducible assumption); (case z3 => with_reducible assumption); (case z4 => omega); (case z5 => omega); (case z6 => omega); intro h' tk' F' N'; (try dsimp only))))
theorem m_slice {prog : Program} {w : World} {A : Around} {E : Value → Shared → Prop} {s : Shared} {h₀ : Heap} {L D0 : Addr} {m : Str → Option Value} {news : List (Addr × Obj)} {its zs : List Value} {n : Nat} {value slice : Expr} {x y : Int} {tx ty : Tok} {Q : Value → Shared → Prop}
    (F : Fr h₀ L s.heap m) (N : News h₀ L s.heap news) (hm : (D0, listOf its.toArray n) ∈ news) (h0 : 0 ≤ x) (hxy : x ≤ y) (hy : y ≤ its.length) (hb : its.length < 10000) (e : (its.drop x.toNat).take (y - x).toNat = zs)
    (h : ∀ D h', Fr h₀ L h' m → News h₀ L h' ((D, listOf zs.toArray 0) :: news) → (∀ p ∈ news, p.1 < D) → Q (.ref D) { s with heap := h' })
    (hs : subscripted slice false (.ref D0) (.ref s.heap.objs.size) = operate [.ref s.heap.objs.size, .ref D0] (getItem (.ref D0) (.ref s.heap.objs.size))) :
    wpAny (model prog w) A (subscriptTail value slice (.ref D0) (.ref s.heap.objs.size)) Q E { s with heap := s.heap.push { cls := .type "slice", data := .fields #[.int x tx, .int y ty, .none] } } := by
  refine kba_turn (value' := PySem.Expr.Name (PySem.Str.ofString "_") ⟨0, 0, 0, 0⟩) (fun _ => rfl) ?_
  refine kms_slice_lit F N (m_isList N hm) (.int x tx) (.int y ty) ?_ h hs (fun _ => rfl) (by rw [List.size_toArray, sizeLine_eq]; omega)
  show kms_pick its (some x) (some y) = zs
  unfold kms_pick kms_lo kms_hi
  dsimp only
  rw [if_neg (by omega), if_neg (by omega), Nat.min_eq_left (by omega), Nat.min_eq_left (by omega), ← e]
  congr 1; omega
local macro_rules | `(tactic| walk_at "subscriptTail") => `(tactic| (k_here; (with_reducible show wpAny _ _ (subscriptTail _ _ (Value.ref _) (Value.ref _)) _ _ _); k_dflt (refine' m_slice ?F ?N ?hm ?h0 ?hxy ?hy ?hb ?e ?_ ?s; (case F => k_asm); (case N => k_asm); (case hm => walk_at "My mem"); (case h0 => omega); (case hxy => omega); (case hy => omega); (case hb => omega); (case e => walk_at "My slice"); (case s => with_unfolding_all rfl)); intro D' h' F' N' l1; (try k_lt l1); (try k_sweep)))
local macro_rules | `(tactic| walk_at "subscriptTail Name Slice ref ref") => `(tactic| (k_here; (with_reducible show wpAny _ _ (subscriptTail _ _ (Value.ref _) (Value.ref _)) _ _ _); k_dflt (refine' m_slice ?F ?N ?hm ?h0 ?hxy ?hy ?hb ?e ?_ ?s; (case F => k_asm); (case N => k_asm); (case hm => walk_at "My mem"); (case h0 => omega); (case hxy => omega); (case hy => omega); (case hb => omega); (case e => walk_at "My slice"); (case s => with_unfolding_all rfl)); intro D' h' F' N' l1; (try k_lt l1); (try k_sweep)))
local macro_rules | `(tactic| walk_at "subscriptTail") => `(tactic| (k_here; (with_reducible show wpAny _ _ (subscriptTail _ _ (Value.ref _) (Value.int _ _)) _ _ _); k_dflt (refine' kda_item (knd := PySem.intKind _ _) ?N ?hp ?hd (intKind_is _ _ _ _) ?hl ?_ ?hs; (case N => k_asm); (case hp => walk_at "My mem"); (case hd => with_reducible assumption); (case hl => with_reducible assumption); (case hs => with_unfolding_all rfl); k_whole)))
local macro_rules | `(tactic| walk_at "subscriptTail Name Name ref int") => `(tactic| (k_here; (with_reducible show wpAny _ _ (subscriptTail _ _ (Value.ref _) (Value.int _ _)) _ _ _); k_dflt (refine' kda_item (knd := PySem.intKind _ _) ?N ?hp ?hd (intKind_is _ _ _ _) ?hl ?_ ?hs; (case N => k_asm); (case hp => walk_at "My mem"); (case hd => with_reducible assumption); (case hl => with_reducible assumption); (case hs => with_unfolding_all rfl); k_whole)))
local macro_rules | `(tactic| walk_at "binaryOp Add ref ref") => `(tactic| (k_here; (with_reducible show wpAny _ _ (binaryOp _ (Value.ref _) (Value.ref _)) _ _ _); k_dflt (refine' kmk_add_lit ?F ?N ?a ?b ?e ?_ ?z; (case F => k_asm); (case N => k_asm); (case a => exact m_isList (by k_asm) (by walk_at "My mem")); (case b => exact m_isList (by k_asm) (by walk_at "My mem")); (case e => exact rfl); (case z => (rw [sizeLine_eq]; simp; omega))); intro D' h' F' N' l1; (try k_lt l1); (try k_sweep)))
theorem take_cut {ks zs : List Value} {a b n : Nat} (h : (ks.drop a).take n = zs) (e : b = n) : (ks.drop a).take b = zs := e ▸ h
local macro_rules | `(tactic| walk_at "My slice") => `(tactic| (refine take_cut (by with_reducible assumption) ?_; omega))

local macro_rules | `(tactic| walk_at "exec Assign cons ListComp") => `(tactic| refine halt ?_)
local macro_rules | `(tactic| walk_at "eval ListComp") => `(tactic| refine halt ?_)
local macro_rules | `(tactic| walk_at "compareOp NotEq ref ref") => `(tactic| refine halt ?_)
local macro_rules | `(tactic| walk_at "compareOp Eq ref ref") => `(tactic| refine halt ?_)
local macro_rules | `(tactic| walk_at "CompSrc") => `(tactic| refine halt ?_)

theorem fold_filter (x : Int) : ∀ (pn l : List Int), pn.foldl (fun l k => if k ≤ x then l ++ [k] else l) l = l ++ pn.filter (fun y => decide (y ≤ x))
  | [], l => by simp
  | k :: r, l => by
    rw [List.foldl_cons, fold_filter x r, List.filter_cons]
    by_cases h : k ≤ x
    · rw [if_pos h, if_pos (decide_eq_true h)]; simp
    · rw [if_neg h, if_neg (by simpa using h)]
structure KeptAt (tl : List (Addr × Obj)) (kvs : List (Int × Value)) (ks : List Value) (x hb : Int) (T9 G En kg ke : Nat) (evs gs : List Value) (e7 : List Int) (cnt : Int) (ct : Tok) : Prop where
  kv : valueAt kvs x = some (Value.ref T9)
  t9 : (T9, ({ cls := .type "tuple", data := .seq ([.ref G, .ref En] : List Value).toArray 0 } : Obj)) ∈ tl
  g : (G, listOf gs.toArray kg) ∈ tl
  en : (En, listOf evs.toArray ke) ∈ tl
  ei : IntsAre evs e7
  le : e7.length = 7
  g2 : gs.length ≤ 2
  e5 : e7[5]? = some hb
  c0 : ks[x.toNat]? = some (.int cnt ct)
  cg : cnt = gs.length
  sl : (ks.drop x.toNat).take (gs.length + 1) = .int cnt ct :: gs
  sz : x + (gs.length : Int) + 8 ≤ ks.length
  pt : ∀ i : Int, 1 ≤ i → i ≤ 7 → ∃ t, ks[(x + cnt + i).toNat]? = some (.int (e7.getD (i - 1).toNat 0) t)
set_option maxHeartbeats 8000000 in
theorem c_chain {w : World} {mean : ExcName → Option Value} {mg mb : Str → Option Value} {dp un : Nat} {gd : Option (List Code)} {cn : Str} {cs : Scope} {a : Addr} {ccd : Value} {cl : List (Str × Addr)} {outer : List Env} {A₀ : Around} {base h₀ : Heap} {L : Addr} {m : Str → Option Value} {s : Shared} {Q E : Value → Shared → Prop} {A AD S SD HL KL TR CD C1 C2 : Nat} {ea es : List DictEntry} {na ns kh kk kt kc : Nat} {hs ks ts : List Value} {tl : List (Addr × Obj)} {cp e b b0 hb bb : Int} {u1 u2 u3 u4 v1 v2 v3 : Tok} {c1a c1b c2a c2b : Value} {c1t c2t : Tok} {x : Int} {xt : Tok} {PL KP kp : Nat} {ok : Obj} {kvs : List (Int × Value)} {ps : List Value} {pn : List Int}
   (B : Below A₀ base outer h₀) (F : Fr h₀ L s.heap m) (X : (hd.heap_39 w.params).In h₀) (N : News h₀ L s.heap ((A, instObj 541 AD) :: (AD, dictOf ea na) :: (S, instObj 381 SD) :: (SD, dictOf es ns) :: (HL, listOf (hs).toArray kh) :: (KL, listOf (ks).toArray kk) :: (TR, listOf (ts).toArray kt) :: (CD, listOf ([.ref C1, .ref C2] : List Value).toArray kc) :: (C1, codeTup c1a c1b 2 c1t) :: (C2, codeTup c2a c2b 1 c2t) :: tl)) (T : TopL mean mg mb h₀) (hk : cs.kind = .function) (hdp : dp + 6 < recursionLimit) (hun : un + 48 < cLine)
   (ord : C1 < C2 ∧ C2 < CD ∧ CD < AD ∧ AD < A ∧ A < SD ∧ SD < S ∧ S < HL ∧ HL < KL ∧ KL < TR) (off : Off AD SD HL KL TR tl) (hA : AIs ea S CD cp e b b0 u1 u2 u3 u4) (hS : SIs es HL KL TR hb bb v1 v2 v3)
   (hPL : (PL, listOf ps.toArray kp) ∈ tl) (hPI : IntsAre ps pn) (hpl : pn.length ≤ 20) (hKP : (KP, ok) ∈ tl) (hok : ok.IsDictOf (PySem.intKind PySem.Challenge.rw_rh0105_01.row.prog w) kvs)
   (hbx : b = x) (hch : Chain ks b ((pn.filter (fun y => decide (y ≤ x))).reverse)) (hlen : ks.length ≤ 1000) (hx1 : x ≤ 900)
   (hneg : x < 0 → hb = 0 ∧ bb = 0) (hpos : 0 ≤ x → bb = x ∧ ∃ T9 G En kg ke evs gs e7 cnt ct, KeptAt tl kvs ks x hb T9 G En kg ke evs gs e7 cnt ct)
   (hret : ∀ h' tk', Fr h₀ L h' m → News h₀ L h' ((A, instObj 541 AD) :: (AD, dictOf ea na) :: (S, instObj 381 SD) :: (SD, dictOf es ns) :: (HL, listOf (hs).toArray kh) :: (KL, listOf (ks).toArray kk) :: (TR, listOf (ts).toArray kt) :: (CD, listOf ([.ref C1, .ref C2] : List Value).toArray kc) :: (C1, codeTup c1a c1b 2 c1t) :: (C2, codeTup c2a c2b 1 c2t) :: tl) → Q (.bool true) { s with heap := h', toks := tk' }) :
   wpAny (model PySem.Challenge.rw_rh0105_01.row.prog w) (ktrTop dp un gd cn cs L a ccd cl outer) (call (.ref 557) [.ref A, .ref PL, .ref KP, .int x xt]) Q E s := by
  obtain ⟨o1, o2, o3, o4, o5, o6, o7, o8, o9⟩ := ord
  obtain ⟨offA, offS, offH, offK, offT⟩ := off
  refine wpAny_call ?_
  k_dflt (refine' code_defC (binds := [(Str.ofString "m", .ref A), (Str.ofString "places", .ref PL), (Str.ofString "kept", .ref KP), (Str.ofString "last", .int x xt)]) ?k1 ?k2 ?k3 ?k4 ?k5 ?kA ?kF ?kK ?k6 ?k7 ?k8 ?k9 ?kB ?kD ?_ ?c2 ?c3 ?c4; (case kA => exact rfl); (case kF => exact rfl); (case kK => assumption); (case k1 => k_asm); (case k2 => k_asm); (case k3 => k_asm); (case k4 => k_asm); (case k5 => k_asm); (case k6 => k_is); (case k7 => k_is); (case k8 => ktr_room); (case k9 => exact BindsTo.of_eq rfl); (case kB => exact rfl); (case kD => decide +kernel); (case c2 => exact rfl); (case c3 => exact rfl); (case c4 => exact rfl); k_whole; intro g' L' h' tk' cells' FG' F' N' Y' B' X' T' l1; (try k_lt l1); k_cells Y'; (try simp only [List.cons_append, List.nil_append] at N'); (try dsimp only); (try k_fold))
  have hpsl := hPI.length
  k_steps
  unfold Halt
  k_dflt (refine LCt.Assign_ListComp_T (F₀ := by k_asm) (by rfl) (by with_unfolding_all rfl) (by with_unfolding_all rfl) (by decide) (by rfl) (by decide) (by rfl) (by rfl) (by rfl) ?_)
  walk1
  k_dflt (refine' LCt.CompSrcT.ledger (by rfl) (by k_asm) (by k_asm) ?hm ?hz ?_; (case hm => walk_at "My mem"); (case hz => (rw [List.size_toArray, sizeLine_eq]; omega)))
  intro gg
  k_dflt (refine' kci_list (fun l k => if k ≤ x then l ++ [k] else l) hPI ?turn ?fin ?hg)
  case hg => (intro l k; dsimp only; split <;> simp)
  case turn =>
    intro k9 t9 I9 oI9 C9 oC9 D9 m9 ys9 l9 h9 tk9 E9 hk9 hI9 hC9 hx9 F9 N9 off9 ne9 mk9
    k_steps
    · exact LCg.CompEnd.intro (by assumption) N9 _ (fun p hp => hp) off9 (.inr ⟨_, by walk_at "My mem", rfl, _, rfl⟩) (kci_el (if_pos (by assumption)) rfl rfl)
    · exact LCg.CompEnd.intro (by assumption) N9 _ (fun p hp => hp) off9 (.inr ⟨_, by walk_at "My mem", rfl, _, rfl⟩) (kci_no (if_neg (by assumption)) rfl)
  case fin =>
    unfold KPfDone LCg.FinA
    intro ys hys _ D h tk F9 N9 off9
    rw [fold_filter, List.nil_append] at hys
    simp only [LCg.Off1, LCg.lst] at off9 N9
    have hfl := List.length_filter_le (fun y => decide (y ≤ x)) pn
    have hyl := hys.length
    have offD9 := off1_mem off9.2.2.2.2.2.2.2.2.2.2.2.2
    dsimp only
    k_steps
    any_goals (exfalso; omega)
    unfold Halt
    rename IntsAre _ _ => hI9
    rename News _ _ _ _ => N8
    k_dflt (refine m_neL (m_isList N8 (.head _)) (m_isList N8 (by walk_at "My mem")) (SameL.ints hI9 (IntsAre.reverse hys)) (by ktr_units) ?_)
    rcases Int.lt_or_le x 0 with hx0 | hx0
    · obtain ⟨rfl, rfl⟩ := hneg hx0
      k_steps
      all_goals (rename News _ _ _ _ => N5)
      all_goals (exact hret _ _ (by assumption) fun p hp => N5 p (by repeat (first | exact hp | refine List.Mem.tail _ ?_)))
    obtain ⟨hbb, T9, G, En, kg, ke, evs, gs, e7, cnt, ct, kv, hT9, hG, hEn, hEI, he7, hg2, hhb, hct, hcg, hsl, hsz, hpt⟩ := hpos hx0
    have hh5 : e7.getD (Int.toNat 5) 0 = hb := by
      rw [List.getD_eq_getElem?_getD]; show (e7[5]?).getD 0 = hb; rw [hhb]; rfl
    rw [← hbx] at hct hpt
    k_steps
    any_goals (exfalso; omega)
    unfold Halt
    rename News _ _ _ _ => N7
    k_dflt (refine m_neL (m_isList N7 (.tail _ (.tail _ (.head _)))) (m_isList N7 (.head _)) (.cons (.inr ⟨cnt, ct, _, rfl, congrArg (Value.int · _) hcg.symm⟩) (SameL.refl gs)) (by ktr_units) ?_)
    k_steps
    unfold Halt
    k_dflt (refine LCg.ListComp_U (F₀ := by k_asm) (by with_unfolding_all rfl) (by decide) (by rfl) (by decide) (by rfl) ?_)
    k_steps
    unfold Halt
    k_dflt (refine LCg.CompSrc.range (n := 7) (by rfl) (by k_asm) (by k_asm) (by assumption) (by decide) (by rfl) (by decide) ?_)
    intro g6
    k_dflt (refine' kcf_range (fun k => e7.getD (k - 1).toNat 0) ?turn ?fin)
    case turn =>
      intro k6 t6 I6 oI6 C6 oC6 D6 m6 ys6 h6 tk6 E6 hk6 hk7 hC6 hx6 F6 N6 off6 ne6 mk6
      obtain ⟨t7, ht7⟩ := hpt k6 hk6 (by omega)
      k_steps
    case fin =>
      unfold KPfDone LCg.FinE
      intro ys6 hys6 D6 h6 tk6 F6 N6 off6
      k_steps
      unfold Halt
      have he8 : (rangeKs 1 7).map (fun k => e7.getD (k - 1).toNat 0) = e7 := by
        match e7, he7 with
        | [a0, a1, a2, a3, a4, a5, a6], _ => rfl
      rw [he8] at hys6
      simp only [LCg.lst] at N6
      k_dflt (refine m_eqL (m_isList N6 (.head _)) (m_isList N6 (by walk_at "My mem")) (SameL.ints hys6 hEI) (by ktr_units) ?_)
      k_steps
      rename News _ _ _ _ => N5
      exact hret _ _ (by assumption) fun p hp => N5 p (by repeat (first | exact hp | refine List.Mem.tail _ ?_))

end
section
local macro_rules | `(tactic| walk_at "My enter") => `(tactic| ((case kA => exact rfl); (case kF => exact rfl); (case kK => assumption); (case k1 => k_asm); (case k2 => k_asm); (case k3 => k_asm); (case k4 => k_asm); (case k5 => k_asm); (case k6 => k_is); (case k7 => k_is); (case k8 => ktr_room); (case k9 => exact BindsTo.of_eq rfl); (case c5 => decide); (case kB => exact locs rfl); (case c2 => exact rfl); (case c3 => exact rfl); (case c4 => exact rfl); k_whole; intro g' L' h' FG' F' N' B' X' T'; (try dsimp only); (try k_fold)))
local macro_rules | `(tactic| walk_at "My A") => `(tactic| first | with_reducible assumption | exact AIs.set_e (by walk_at "My A") | exact AIs.set_b (by walk_at "My A") | exact AIs.set_cp (by walk_at "My A") | exact AIs.set_b0 (by walk_at "My A"))
local macro_rules | `(tactic| walk_at "My S") => `(tactic| first | with_reducible assumption | exact SIs.set_hb (by walk_at "My S") | exact SIs.set_bb (by walk_at "My S"))
local macro_rules | `(tactic| k_get) => `(tactic| first
  | exact SIs.stack (by walk_at "My S") | exact SIs.heap (by walk_at "My S") | exact SIs.trail (by walk_at "My S") | exact SIs.hb (by walk_at "My S") | exact SIs.bb (by walk_at "My S") | exact SIs.max_heap (by walk_at "My S")
  | exact SIs.stack_put (by walk_at "My S") | exact SIs.mark (by walk_at "My S") | exact SIs.push (by walk_at "My S") | exact SIs.new_var (by walk_at "My S") | exact SIs.bind (by walk_at "My S")
  | exact AIs.code (by walk_at "My A") | exact AIs.store (by walk_at "My A") | exact AIs.cp (by walk_at "My A") | exact AIs.e (by walk_at "My A") | exact AIs.b (by walk_at "My A") | exact AIs.b0 (by walk_at "My A")
  | exact AIs.top (by walk_at "My A") | exact AIs.set_choice (by walk_at "My A") | exact AIs.push_environment (by walk_at "My A") | exact AIs.push_choice (by walk_at "My A") | exact AIs.choice_part (by walk_at "My A") | exact AIs.cut_back (by walk_at "My A") | exact AIs.choices (by walk_at "My A"))
local macro_rules | `(tactic| walk_at "My mem") => `(tactic| first | exact List.Mem.head _ | (refine' List.Mem.tail _ ?_; walk_at "My mem") | assumption)
local macro_rules | `(tactic| k_all) => `(tactic| with_reducible assumption)
local macro_rules | `(tactic| walk_at "call builtin:len") => `(tactic| (k_here; (with_reducible show wpAny _ _ (call (Value.builtin "len") [Value.ref _]) _ _ _); k_dflt (refine' m_len ?k1 ?k2 ?k3 ?_; (case k1 => k_asm); (case k2 => walk_at "My mem"); (case k3 => omega); k_whole)))
local macro_rules | `(tactic| walk_at "setItem ref int") => `(tactic| (k_here; k_dflt (refine' m_set ?k1 ?k2 ?k3 ?k4 ?k5 ?k6 ?_; (case k1 => k_asm); (case k2 => k_asm); (case k6 => k_upd); (case k3 => omega); (case k4 => omega); (case k5 => omega); k_whole; intro h' F' N'; (try k_sweep))))
local macro_rules | `(tactic| walk_at "call builtin:list.append") => `(tactic| (k_here; k_dflt (refine' m_append ?k1 ?k2 ?k3 ?k4 ?_; (case k1 => k_asm); (case k2 => k_asm); (case k4 => k_upd); (case k3 => omega); k_whole; intro h' F' N'; (try k_sweep))))
local macro_rules | `(tactic| walk_at "WhlIf") => `(tactic| (first | (refine WhlIf.yes (decide_eq_true (by omega)) ?_) | (refine WhlIf.no (decide_eq_false (by omega)) ?_)))
local macro_rules | `(tactic| walk_at "My fit") => `(tactic| first | omega | ((try simp only [List.length_cons, List.length_nil, List.length_append, List.length_map]); omega))
local macro_rules | `(tactic| walk_at "My at") => `(tactic| first | with_reducible assumption | rfl | (refine' (show 0 ≤ (_ : Int) → (_ : Option Value) = some _ from by with_reducible assumption) ?_; omega))
local macro_rules | `(tactic| walk_at "subscriptTail") => `(tactic| (k_here; (with_reducible show wpAny _ _ (subscriptTail _ _ (Value.ref _) (Value.int _ _)) _ _ _); k_dflt (first
  | (refine' m_itemV ?k1 ?k2 ?k3 ?k4 ?k5 ?_; (case k1 => k_asm); (case k2 => walk_at "My mem"); (case k3 => omega); (case k4 => walk_at "My fit"); (case k5 => walk_at "My at"); k_whole)
  | (refine' m_tupV ?k1 ?k2 ?k3 ?k4 ?k5 ?_; (case k1 => k_asm); (case k2 => walk_at "My mem"); (case k3 => omega); (case k4 => walk_at "My fit"); (case k5 => walk_at "My at"); k_whole))))
local macro_rules | `(tactic| walk_at "setAttr ref") => `(tactic| (k_here; k_dflt (refine' m_setattr ?k1 ?k2 ?k3 ?k4 ?k5 ?k6 ?k7 ?k8 ?k9 ?k10 ?k11 ?k12 ?_; (case k1 => k_asm); (case k2 => k_asm); (case k3 => k_asm); (case k4 => k_inst); (case k5 => exact rfl); (case k6 => k_is); (case k7 => k_is); (case k8 => k_is); (case k9 => k_is); (case k10 => k_get); (case k11 => (intro t'; k_upd)); (case k12 => first | exact AIs.len (by walk_at "My A") | exact SIs.len (by walk_at "My S")); k_whole; intro t' tk' h' F' N'; (try dsimp only at N'); (try dsimp only); (try k_sweep))))
local macro_rules | `(tactic| walk_at "getAttr ref") => `(tactic| (k_here; k_dflt (refine' m_getattr ?k1 ?k2 ?k3 ?k4 ?k5 ?k6 ?k7 ?k8 ?k9 ?_; (case k1 => k_asm); (case k2 => k_asm); (case k3 => k_inst); (case k4 => k_is); (case k5 => k_is); (case k6 => k_is); (case k7 => k_is); (case k8 => k_get); (case k9 => k_handed); k_whole; intro tk'; (try dsimp only))))
local macro_rules | `(tactic| walk_at "My call") => `(tactic| ((case B => k_asm); (case F => k_asm); (case X => k_asm); (case N => first | k_asm | exact rot1 (by k_asm) | exact rot2 (by k_asm) | exact rot3 (by k_asm)); (case T => k_asm); (case hk => first | exact rfl | assumption); (case ord => omega); (case off => exact ⟨by k_all, by k_all, by k_all, by k_all, by k_all⟩); (case hA => walk_at "My A"); (case hS => walk_at "My S"); (case hdp => ktr_room); (case hun => ktr_units)))
local macro_rules | `(tactic| k_mem) => `(tactic| walk_at "My mem")

structure SyIs (ey : List DictEntry) (TX AN FL FD : Nat) : Prop where
  texts : getL (Str.ofString "texts") ey = some (some (.ref TX))
  atom_numbers : getL (Str.ofString "atom_numbers") ey = some (some (.ref AN))
  functors : getL (Str.ofString "functors") ey = some (some (.ref FL))
  functor_numbers : getL (Str.ofString "functor_numbers") ey = some (some (.ref FD))
  atom : getL (Str.ofString "atom") ey = some none
  functor : getL (Str.ofString "functor") ey = some none
  func : getL (Str.ofString "func") ey = some none
local macro_rules | `(tactic| k_get) => `(tactic| first | exact SyIs.texts (by with_reducible assumption) | exact SyIs.atom_numbers (by with_reducible assumption) | exact SyIs.functors (by with_reducible assumption) | exact SyIs.functor_numbers (by with_reducible assumption) | exact SyIs.atom (by with_reducible assumption) | exact SyIs.functor (by with_reducible assumption) | exact SyIs.func (by with_reducible assumption))
theorem flat_int {k : PyData} {v : Value} {sk : PySem.Spec.Shape} {D : List (PyData × PyData)} {z : Int} (hS : Shaped sk .int D) (h : PyProof.V.Flat v ((PySem.Spec.lookup k D).getD (.int z))) : ∃ i t, v = .int i t := by
  cases e : PySem.Spec.lookup k D with
  | none =>
    rw [e] at h
    obtain ⟨t, rfl, _⟩ := reads_int_inv (h default)
    exact ⟨_, _, rfl⟩
  | some dv =>
    rw [e] at h
    have := hS.at e
    cases dv with
    | int i =>
      obtain ⟨t, rfl, _⟩ := reads_int_inv (h default)
      exact ⟨_, _, rfl⟩
    | _ => simp [PySem.Spec.Shape.has] at this
set_option maxHeartbeats 8000000 in
theorem c_atom {w : World} {mean : ExcName → Option Value} {mg mb : Str → Option Value} {dp un : Nat} {gd : Option (List Code)} {cn : Str} {cs : Scope} {a : Addr} {ccd : Value} {cl : List (Str × Addr)} {outer : List Env} {A₀ : Around} {base h₀ : Heap} {L : Addr} {m : Str → Option Value} {s : Shared} {Q E : Value → Shared → Prop} {x dx TX AN FL FD : Nat} {ey : List DictEntry} {ny k1 : Nat} {oA : Obj} {tx : List Value} {kvs : List (Str × Value)} {D : List (PyData × PyData)} {rest : List (Addr × Obj)} {u : Str} {t : Tok}
  (B : Below A₀ base outer h₀) (F : Fr h₀ L s.heap m) (X : (hd.heap_39 w.params).In h₀) (N : News h₀ L s.heap ((TX, listOf tx.toArray k1) :: (AN, oA) :: rest)) (T : TopL mean mg mb h₀) (hk : cs.kind = .function) (hdp : dp + 3 < recursionLimit) (hun : un + 24 < cLine)
  (mx : (x, instObj 154 dx) ∈ rest) (md : (dx, dictOf ey ny) ∈ rest) (hY : SyIs ey TX AN FL FD) (hD : oA.IsDictOf (PySem.strKind PySem.Challenge.rw_rh0105_01.row.prog w) kvs) (hF : PyProof.V.FlatPairs PyData.str kvs D) (hS : Shaped .str .int D) (hl : D.length ≤ 200) (htx : tx.length ≤ 200)
  (lo : (AN == sysModules) = false) (ne : TX < AN) (off1 : ∀ p ∈ rest, p.1 ≠ TX) (off2 : ∀ p ∈ rest, p.1 ≠ AN)
  (hret : ∀ h' tk' k' oA' tx' kvs' D' i t', Fr h₀ L h' m → News h₀ L h' ((TX, listOf (tx' : List Value).toArray k') :: (AN, oA') :: rest) → oA'.IsDictOf (PySem.strKind PySem.Challenge.rw_rh0105_01.row.prog w) kvs' → PyProof.V.FlatPairs PyData.str kvs' D' → Shaped .str .int D' → D'.length ≤ D.length + 1 → tx'.length ≤ tx.length + 1 → Q (.int i t') { s with heap := h', toks := tk' }) :
   wpAny (model PySem.Challenge.rw_rh0105_01.row.prog w) (ktrTop dp un gd cn cs L a ccd cl outer) (call (.ref 88) [.ref x, .str u t]) Q E s := by
  refine wpAny_call ?_
  k_dflt (refine' code_def (binds := [(Str.ofString "self", .ref x), (Str.ofString "text", .str u t)]) ?k1 ?k2 ?k3 ?k4 ?k5 ?kA ?kF ?kK ?k6 ?k7 ?k8 ?k9 ?kB ?_ ?c2 ?c3 ?c4 ?c5; walk_at "My enter")
  k_steps
  rename PyProof.V.Flat _ _ => hv9
  obtain ⟨i9, t9, rfl⟩ := flat_int hS hv9
  k_steps
  · rename News _ _ _ _ => N9
    exact hret _ _ _ _ _ _ _ _ _ (by assumption) N9 hD hF hS (by omega) (by omega)
  · k_dflt (refine' setItem_K PyProof.V.same_str (strKind_is _ _ _ _) ?v ?F ?N ?U hD hF ?_ ?z; (case v => exact PyProof.V.Flat.int _ _); (case F => k_asm); (case N => k_asm); (case U => k_updF); (case z => (rw [sizeLine_eq]; omega)))
    intro h9 o9 F9 N9 hd9 hf9
    (try dsimp only at N9)
    have hpl := PyProof.V.putD_length_le (PyData.str u) (PyData.int (tx.length : Int)) D
    have hsp := hS.put (dk := PyData.str u) (dv := PyData.int (tx.length : Int)) rfl rfl
    dsimp only
    k_steps
    all_goals (rename News _ _ _ _ => N9)
    exact hret _ _ _ _ _ _ _ _ _ (by assumption) N9 hd9 hf9 hsp hpl (by simp)

end
section
local macro_rules | `(tactic| walk_at "My enter") => `(tactic| ((case kA => exact rfl); (case kF => exact rfl); (case kK => assumption); (case k1 => k_asm); (case k2 => k_asm); (case k3 => k_asm); (case k4 => k_asm); (case k5 => k_asm); (case k6 => k_is); (case k7 => k_is); (case k8 => ktr_room); (case k9 => exact BindsTo.of_eq rfl); (case c5 => decide); (case kB => exact locs rfl); (case c2 => exact rfl); (case c3 => exact rfl); (case c4 => exact rfl); k_whole; intro g' L' h' FG' F' N' B' X' T'; (try dsimp only); (try k_fold)))
local macro_rules | `(tactic| walk_at "My A") => `(tactic| first | with_reducible assumption | exact AIs.set_e (by walk_at "My A") | exact AIs.set_b (by walk_at "My A") | exact AIs.set_cp (by walk_at "My A") | exact AIs.set_b0 (by walk_at "My A"))
local macro_rules | `(tactic| walk_at "My S") => `(tactic| first | with_reducible assumption | exact SIs.set_hb (by walk_at "My S") | exact SIs.set_bb (by walk_at "My S"))
local macro_rules | `(tactic| k_get) => `(tactic| first
  | exact SIs.stack (by walk_at "My S") | exact SIs.heap (by walk_at "My S") | exact SIs.trail (by walk_at "My S") | exact SIs.hb (by walk_at "My S") | exact SIs.bb (by walk_at "My S") | exact SIs.max_heap (by walk_at "My S")
  | exact SIs.stack_put (by walk_at "My S") | exact SIs.mark (by walk_at "My S") | exact SIs.push (by walk_at "My S") | exact SIs.new_var (by walk_at "My S") | exact SIs.bind (by walk_at "My S")
  | exact AIs.code (by walk_at "My A") | exact AIs.store (by walk_at "My A") | exact AIs.cp (by walk_at "My A") | exact AIs.e (by walk_at "My A") | exact AIs.b (by walk_at "My A") | exact AIs.b0 (by walk_at "My A")
  | exact AIs.top (by walk_at "My A") | exact AIs.set_choice (by walk_at "My A") | exact AIs.push_environment (by walk_at "My A") | exact AIs.push_choice (by walk_at "My A") | exact AIs.choice_part (by walk_at "My A") | exact AIs.cut_back (by walk_at "My A") | exact AIs.choices (by walk_at "My A"))
local macro_rules | `(tactic| walk_at "My mem") => `(tactic| first | exact List.Mem.head _ | (refine' List.Mem.tail _ ?_; walk_at "My mem") | assumption)
local macro_rules | `(tactic| k_all) => `(tactic| with_reducible assumption)
local macro_rules | `(tactic| walk_at "call builtin:len") => `(tactic| (k_here; (with_reducible show wpAny _ _ (call (Value.builtin "len") [Value.ref _]) _ _ _); k_dflt (refine' m_len ?k1 ?k2 ?k3 ?_; (case k1 => k_asm); (case k2 => walk_at "My mem"); (case k3 => omega); k_whole)))
local macro_rules | `(tactic| walk_at "setItem ref int") => `(tactic| (k_here; k_dflt (refine' m_set ?k1 ?k2 ?k3 ?k4 ?k5 ?k6 ?_; (case k1 => k_asm); (case k2 => k_asm); (case k6 => k_upd); (case k3 => omega); (case k4 => omega); (case k5 => omega); k_whole; intro h' F' N'; (try k_sweep))))
local macro_rules | `(tactic| walk_at "call builtin:list.append") => `(tactic| (k_here; k_dflt (refine' m_append ?k1 ?k2 ?k3 ?k4 ?_; (case k1 => k_asm); (case k2 => k_asm); (case k4 => k_upd); (case k3 => omega); k_whole; intro h' F' N'; (try k_sweep))))
local macro_rules | `(tactic| walk_at "WhlIf") => `(tactic| (first | (refine WhlIf.yes (decide_eq_true (by omega)) ?_) | (refine WhlIf.no (decide_eq_false (by omega)) ?_)))
local macro_rules | `(tactic| walk_at "My fit") => `(tactic| first | omega | ((try simp only [List.length_cons, List.length_nil, List.length_append, List.length_map]); omega))
local macro_rules | `(tactic| walk_at "My at") => `(tactic| first | with_reducible assumption | rfl | (refine' (show 0 ≤ (_ : Int) → (_ : Option Value) = some _ from by with_reducible assumption) ?_; omega))
local macro_rules | `(tactic| walk_at "subscriptTail") => `(tactic| (k_here; (with_reducible show wpAny _ _ (subscriptTail _ _ (Value.ref _) (Value.int _ _)) _ _ _); k_dflt (first
  | (refine' m_itemV ?k1 ?k2 ?k3 ?k4 ?k5 ?_; (case k1 => k_asm); (case k2 => walk_at "My mem"); (case k3 => omega); (case k4 => walk_at "My fit"); (case k5 => walk_at "My at"); k_whole)
  | (refine' m_tupV ?k1 ?k2 ?k3 ?k4 ?k5 ?_; (case k1 => k_asm); (case k2 => walk_at "My mem"); (case k3 => omega); (case k4 => walk_at "My fit"); (case k5 => walk_at "My at"); k_whole))))
local macro_rules | `(tactic| walk_at "setAttr ref") => `(tactic| (k_here; k_dflt (refine' m_setattr ?k1 ?k2 ?k3 ?k4 ?k5 ?k6 ?k7 ?k8 ?k9 ?k10 ?k11 ?k12 ?_; (case k1 => k_asm); (case k2 => k_asm); (case k3 => k_asm); (case k4 => k_inst); (case k5 => exact rfl); (case k6 => k_is); (case k7 => k_is); (case k8 => k_is); (case k9 => k_is); (case k10 => k_get); (case k11 => (intro t'; k_upd)); (case k12 => first | exact AIs.len (by walk_at "My A") | exact SIs.len (by walk_at "My S")); k_whole; intro t' tk' h' F' N'; (try dsimp only at N'); (try dsimp only); (try k_sweep))))
local macro_rules | `(tactic| walk_at "getAttr ref") => `(tactic| (k_here; k_dflt (refine' m_getattr ?k1 ?k2 ?k3 ?k4 ?k5 ?k6 ?k7 ?k8 ?k9 ?_; (case k1 => k_asm); (case k2 => k_asm); (case k3 => k_inst); (case k4 => k_is); (case k5 => k_is); (case k6 => k_is); (case k7 => k_is); (case k8 => k_get); (case k9 => k_handed); k_whole; intro tk'; (try dsimp only))))
local macro_rules | `(tactic| walk_at "My call") => `(tactic| ((case B => k_asm); (case F => k_asm); (case X => k_asm); (case N => first | k_asm | exact rot1 (by k_asm) | exact rot2 (by k_asm) | exact rot3 (by k_asm)); (case T => k_asm); (case hk => first | exact rfl | assumption); (case ord => omega); (case off => exact ⟨by k_all, by k_all, by k_all, by k_all, by k_all⟩); (case hA => walk_at "My A"); (case hS => walk_at "My S"); (case hdp => ktr_room); (case hun => ktr_units)))
local macro_rules | `(tactic| k_mem) => `(tactic| walk_at "My mem")

local macro_rules | `(tactic| k_get) => `(tactic| first | exact SyIs.texts (by with_reducible assumption) | exact SyIs.atom_numbers (by with_reducible assumption) | exact SyIs.functors (by with_reducible assumption) | exact SyIs.functor_numbers (by with_reducible assumption) | exact SyIs.atom (by with_reducible assumption) | exact SyIs.functor (by with_reducible assumption) | exact SyIs.func (by with_reducible assumption))
set_option maxHeartbeats 8000000 in
theorem c_functor {w : World} {mean : ExcName → Option Value} {mg mb : Str → Option Value} {dp un : Nat} {gd : Option (List Code)} {cn : Str} {cs : Scope} {a : Addr} {ccd : Value} {cl : List (Str × Addr)} {outer : List Env} {A₀ : Around} {base h₀ : Heap} {L : Addr} {m : Str → Option Value} {s : Shared} {Q E : Value → Shared → Prop} {x dx TX AN FL FD : Nat} {ey : List DictEntry} {ny k1 : Nat} {fl : List Value} {D : List (PyData × PyData)} {rest : List (Addr × Obj)} {i j : Int} {t u : Tok}
  (B : Below A₀ base outer h₀) (F : Fr h₀ L s.heap m) (X : (hd.heap_39 w.params).In h₀) (N : News h₀ L s.heap ((FL, listOf fl.toArray k1) :: rest)) (T : TopL mean mg mb h₀) (hk : cs.kind = .function) (hdp : dp + 3 < recursionLimit) (hun : un + 24 < cLine)
  (mx : (x, instObj 154 dx) ∈ rest) (md : (dx, dictOf ey ny) ∈ rest) (hY : SyIs ey TX AN FL FD) (hT : TupTab (PySem.intKind PySem.Challenge.rw_rh0105_01.row.prog w) PyData.int rest FD D) (hS : Shaped .any .int D) (hl : D.length ≤ 200) (hfl : fl.length ≤ 200)
  (ne : FL < FD) (off1 : ∀ p ∈ rest, p.1 ≠ FL)
  (hret : ∀ h' tk' k' fl' nw' D' i t', Fr h₀ L h' m → News h₀ L h' nw' → (FL, listOf (fl' : List Value).toArray k') ∈ nw' → TupTab (PySem.intKind PySem.Challenge.rw_rh0105_01.row.prog w) PyData.int nw' FD D' → Shaped .any .int D' → D'.length ≤ D.length + 1 → fl'.length ≤ fl.length + 1 → (∀ p ∈ rest, p.1 ≠ FD → p ∈ nw') → Q (.int i t') { s with heap := h', toks := tk' }) :
   wpAny (model PySem.Challenge.rw_rh0105_01.row.prog w) (ktrTop dp un gd cn cs L a ccd cl outer) (call (.ref 102) [.ref x, .int i t, .int j u]) Q E s := by
  refine wpAny_call ?_
  k_dflt (refine' code_def (binds := [(Str.ofString "self", .ref x), (Str.ofString "atom", .int i t), (Str.ofString "arity", .int j u)]) ?k1 ?k2 ?k3 ?k4 ?k5 ?kA ?kF ?kK ?k6 ?k7 ?k8 ?k9 ?kB ?_ ?c2 ?c3 ?c4 ?c5; walk_at "My enter")
  k_steps
  rename PyProof.V.Flat _ _ => hv9
  obtain ⟨i9, t9, rfl⟩ := flat_int hS hv9
  k_steps
  · rename News _ _ _ _ => N9
    rename TupTab _ _ rest _ _ => hT
    exact hret _ _ _ _ _ _ _ _ (by assumption) N9 (.tail _ (.head _)) ((hT.cons _).cons _) hS (by omega) (by omega) (fun p hp _ => .tail _ (.tail _ hp))
  · rename TupTab _ _ _ _ (PyProof.V.putD _ _ _) => hT9
    rename ∀ p ∈ _ :: _, _ → _ => hK9
    rename News h₀ _ _ _ => N9
    exact hret _ _ _ _ _ _ _ _ (by assumption) N9 (hK9 _ (.tail _ (.head _)) (Nat.ne_of_lt ne)) hT9 (hS.put (dk := encTuple PyData.int [i, j]) (dv := PyData.int (fl.length : Int)) rfl rfl) (PyProof.V.putD_length_le _ _ D) (by simp) (fun p hp hn => hK9 p (.tail _ (.tail _ hp)) hn)
structure SymAt (w : World) (x dx TX AN FL FD : Nat) (n1 n2 : Nat) (nw : List (Addr × Obj)) : Prop where
  inst : (x, instObj 154 dx) ∈ nw
  dict : ∃ ey ny, (dx, dictOf ey ny) ∈ nw ∧ SyIs ey TX AN FL FD
  tx : ∃ (l : List Value) (k : Nat), (TX, listOf l.toArray k) ∈ nw ∧ l.length ≤ n1
  an : ∃ oA kvs D, (AN, oA) ∈ nw ∧ oA.IsDictOf (PySem.strKind PySem.Challenge.rw_rh0105_01.row.prog w) kvs ∧ PyProof.V.FlatPairs PyData.str kvs D ∧ Shaped .str .int D ∧ D.length ≤ n1
  fl : ∃ (l : List Value) (k : Nat), (FL, listOf l.toArray k) ∈ nw ∧ l.length ≤ n2
  fd : ∃ D, TupTab (PySem.intKind PySem.Challenge.rw_rh0105_01.row.prog w) PyData.int nw FD D ∧ Shaped .any .int D ∧ D.length ≤ n2
theorem TupTab_less {prog : Program} {w : World} {K : Type} [DecidableEq K] {knd : PySem.KeyKind prog w K} {enc : K → PyData} {h₀ h : Heap} {L d : Nat} {news : List (Addr × Obj)} {D : List (PyData × PyData)} {Y : Nat} {o : Obj} (N : News h₀ L h news) (T : TupTab knd enc news d D) (hm : (Y, o) ∈ news) (hc : o.cls ≠ .type "tuple") (hd : d ≠ Y) : TupTab knd enc (news.filter fun p => decide (p.1 ≠ Y)) d D := by
  obtain ⟨lo, o1, es, ep, xs, hm1, hx, hdat, he, hn, hk, hf⟩ := T
  refine ⟨lo, o1, es, ep, xs, List.mem_filter.mpr ⟨hm1, by simpa using hd⟩, hx, hdat, he, hn, fun q hq => ?_, hf⟩
  obtain ⟨ok, hok, tk⟩ := hk q hq
  refine ⟨ok, List.mem_filter.mpr ⟨hok, ?_⟩, tk⟩
  simp only [ne_eq, decide_not, Bool.not_eq_eq_eq_not, Bool.not_true, decide_eq_false_iff_not]
  intro e
  have e' : q.2.1 = Y := e
  rw [e'] at hok
  have : ok = o := Option.some.inj ((N.get hok).symm.trans (N.get hm))
  exact hc (this ▸ tk.1)
theorem less_off {Y : Nat} {news : List (Addr × Obj)} : ∀ p ∈ news.filter (fun p => decide (p.1 ≠ Y)), p.1 ≠ Y := fun p hp => by simpa using (List.mem_filter.mp hp).2
theorem less_mem {Y : Nat} {news : List (Addr × Obj)} {p : Addr × Obj} (h : p ∈ news) (hn : p.1 ≠ Y) : p ∈ news.filter (fun p => decide (p.1 ≠ Y)) := List.mem_filter.mpr ⟨h, by simpa using hn⟩
theorem less_at {Y z : Nat} {o : Obj} {news : List (Addr × Obj)} (h : (z, o) ∈ news) (hn : z ≠ Y) : (z, o) ∈ news.filter (fun p => decide (p.1 ≠ Y)) := less_mem h hn
theorem less_sub {Y : Nat} {news : List (Addr × Obj)} : ∀ p ∈ news.filter (fun p => decide (p.1 ≠ Y)), p ∈ news := fun p hp => (List.mem_filter.mp hp).1
theorem less_news {h₀ h : Heap} {L Y : Nat} {o : Obj} {news : List (Addr × Obj)} (N : News h₀ L h news) (hm : (Y, o) ∈ news) : News h₀ L h ((Y, o) :: news.filter (fun p => decide (p.1 ≠ Y))) := fun p hp => by
  rcases List.mem_cons.mp hp with rfl | hp
  · exact N _ hm
  · exact N _ (less_sub p hp)
theorem c_atomS {w : World} {mean : ExcName → Option Value} {mg mb : Str → Option Value} {dp un : Nat} {gd : Option (List Code)} {cn : Str} {cs : Scope} {a : Addr} {ccd : Value} {cl : List (Str × Addr)} {outer : List Env} {A₀ : Around} {base h₀ : Heap} {L : Addr} {m : Str → Option Value} {s : Shared} {Q E : Value → Shared → Prop} {x dx TX AN FL FD n1 n2 : Nat} {nw : List (Addr × Obj)} {u : Str} {t : Tok}
  (B : Below A₀ base outer h₀) (F : Fr h₀ L s.heap m) (X : (hd.heap_39 w.params).In h₀) (N : News h₀ L s.heap nw) (T : TopL mean mg mb h₀) (hk : cs.kind = .function) (hdp : dp + 3 < recursionLimit) (hun : un + 24 < cLine)
  (Y : SymAt w x dx TX AN FL FD n1 n2 nw) (od : dx < x ∧ x < TX ∧ TX < AN ∧ AN < FL ∧ FL < FD) (lo : (AN == sysModules) = false) (hn1 : n1 ≤ 200)
  (hret : ∀ h' tk' nw' i t', Fr h₀ L h' m → News h₀ L h' nw' → SymAt w x dx TX AN FL FD (n1 + 1) n2 nw' → (∀ p ∈ nw, p.1 ≠ TX → p.1 ≠ AN → p.1 ≠ FL → p.1 ≠ FD → p ∈ nw') → Q (.int i t') { s with heap := h', toks := tk' }) :
   wpAny (model PySem.Challenge.rw_rh0105_01.row.prog w) (ktrTop dp un gd cn cs L a ccd cl outer) (call (.ref 88) [.ref x, .str u t]) Q E s := by
  obtain ⟨mx, ⟨ey, ny, md, hY⟩, ⟨tx, k1, mtx, ltx⟩, ⟨oA, kvs, D, man, hD, hF, hS, lD⟩, ⟨fl, kf, mfl, lfl⟩, ⟨D2, hT, hS2, lD2⟩⟩ := Y
  obtain ⟨o1, o2, o3, o4, o5⟩ := od
  have N1 := less_news N mtx
  have hA1 : (AN, oA) ∈ nw.filter (fun p => decide (p.1 ≠ TX)) := less_at man (by omega)
  have N2 : News h₀ L s.heap ((TX, listOf tx.toArray k1) :: (AN, oA) :: (nw.filter (fun p => decide (p.1 ≠ TX))).filter (fun p => decide (p.1 ≠ AN))) := news_sub N1 (fun p hp => by
    rcases List.mem_cons.mp hp with rfl | hp
    · exact .head _
    · rcases List.mem_cons.mp hp with rfl | hp
      · exact .tail _ hA1
      · exact .tail _ (less_sub p hp))
  have N1' : News h₀ L s.heap (nw.filter (fun p => decide (p.1 ≠ TX))) := news_sub N less_sub
  have keep : ∀ p ∈ nw, (p.1 : Nat) ≠ TX → (p.1 : Nat) ≠ AN → p ∈ (nw.filter (fun p => decide (p.1 ≠ TX))).filter (fun p => decide (p.1 ≠ AN)) := fun p hp h1 h2 => less_mem (less_mem hp h1) h2
  have hcA : oA.cls ≠ .type "tuple" := by
    obtain ⟨es, ep, hc, _⟩ := hD
    rw [hc.1]; intro e; injection e with e; exact absurd e (by decide)
  have hT2 := TupTab_less N1' (TupTab_less N hT mtx (by intro e; injection e with e; exact absurd e (by decide)) (by omega)) hA1 hcA (by omega)
  refine c_atom B F X N2 T hk hdp hun (keep _ mx (show (_ : Nat) ≠ _ by omega) (show (_ : Nat) ≠ _ by omega)) (keep _ md (show (_ : Nat) ≠ _ by omega) (show (_ : Nat) ≠ _ by omega)) hY hD hF hS (by omega) (by omega) lo (by omega) (fun p hp => less_off p (less_sub p hp)) less_off ?_
  intro h' tk' k' oA' tx' kvs' D' i t' F' N' hD' hF' hS' lD' ltx'
  refine hret h' tk' _ i t' F' N' ⟨.tail _ (.tail _ (keep _ mx (show (_ : Nat) ≠ _ by omega) (show (_ : Nat) ≠ _ by omega))), ⟨ey, ny, .tail _ (.tail _ (keep _ md (show (_ : Nat) ≠ _ by omega) (show (_ : Nat) ≠ _ by omega))), hY⟩, ⟨tx', k', .head _, by omega⟩, ⟨oA', kvs', D', .tail _ (.head _), hD', hF', hS', by omega⟩, ⟨fl, kf, .tail _ (.tail _ (keep _ mfl (show (_ : Nat) ≠ _ by omega) (show (_ : Nat) ≠ _ by omega))), lfl⟩, ⟨D2, (hT2.cons _).cons _, hS2, lD2⟩⟩ ?_
  exact fun p hp h1 h2 _ _ => .tail _ (.tail _ (keep p hp h1 h2))
theorem c_functorS {w : World} {mean : ExcName → Option Value} {mg mb : Str → Option Value} {dp un : Nat} {gd : Option (List Code)} {cn : Str} {cs : Scope} {a : Addr} {ccd : Value} {cl : List (Str × Addr)} {outer : List Env} {A₀ : Around} {base h₀ : Heap} {L : Addr} {m : Str → Option Value} {s : Shared} {Q E : Value → Shared → Prop} {x dx TX AN FL FD n1 n2 : Nat} {nw : List (Addr × Obj)} {i j : Int} {t u : Tok}
  (B : Below A₀ base outer h₀) (F : Fr h₀ L s.heap m) (X : (hd.heap_39 w.params).In h₀) (N : News h₀ L s.heap nw) (T : TopL mean mg mb h₀) (hk : cs.kind = .function) (hdp : dp + 3 < recursionLimit) (hun : un + 24 < cLine)
  (Y : SymAt w x dx TX AN FL FD n1 n2 nw) (od : dx < x ∧ x < TX ∧ TX < AN ∧ AN < FL ∧ FL < FD) (hn2 : n2 ≤ 200)
  (hret : ∀ h' tk' nw' i t', Fr h₀ L h' m → News h₀ L h' nw' → SymAt w x dx TX AN FL FD n1 (n2 + 1) nw' → (∀ p ∈ nw, p.1 ≠ TX → p.1 ≠ AN → p.1 ≠ FL → p.1 ≠ FD → p ∈ nw') → Q (.int i t') { s with heap := h', toks := tk' }) :
   wpAny (model PySem.Challenge.rw_rh0105_01.row.prog w) (ktrTop dp un gd cn cs L a ccd cl outer) (call (.ref 102) [.ref x, .int i t, .int j u]) Q E s := by
  obtain ⟨mx, ⟨ey, ny, md, hY⟩, ⟨tx, k1, mtx, ltx⟩, ⟨oA, kvs, D, man, hD, hF, hS, lD⟩, ⟨fl, kf, mfl, lfl⟩, ⟨D2, hT, hS2, lD2⟩⟩ := Y
  obtain ⟨o1, o2, o3, o4, o5⟩ := od
  have hT1 := TupTab_less N hT mfl (by intro e; injection e with e; exact absurd e (by decide)) (by omega)
  refine c_functor B F X (less_news N mfl) T hk hdp hun (less_at mx (by omega)) (less_at md (by omega)) hY hT1 hS2 (by omega) (by omega) o5 less_off ?_
  intro h' tk' k' fl' nw' D' i t' F' N' mfl' hT' hS' lD' lfl' keep
  have keep' : ∀ p ∈ nw, (p.1 : Nat) ≠ FL → (p.1 : Nat) ≠ FD → p ∈ nw' := fun p hp h1 h2 => keep p (less_mem hp h1) h2
  refine hret h' tk' nw' i t' F' N' ⟨keep' _ mx (show (_ : Nat) ≠ _ by omega) (show (_ : Nat) ≠ _ by omega), ⟨ey, ny, keep' _ md (show (_ : Nat) ≠ _ by omega) (show (_ : Nat) ≠ _ by omega), hY⟩, ⟨tx, k1, keep' _ mtx (show (_ : Nat) ≠ _ by omega) (show (_ : Nat) ≠ _ by omega), ltx⟩, ⟨oA, kvs, D, keep' _ man (show (_ : Nat) ≠ _ by omega) (show (_ : Nat) ≠ _ by omega), hD, hF, hS, lD⟩, ⟨fl', k', mfl', by omega⟩, ⟨D', hT', hS', by omega⟩⟩ ?_
  exact fun p hp _ _ h1 h2 => keep' p hp h1 h2

theorem TupTab_mono {prog : Program} {w : World} {K : Type} [DecidableEq K] {knd : PySem.KeyKind prog w K} {enc : K → PyData} {d : Nat} {news news' : List (Addr × Obj)} {D : List (PyData × PyData)} (T : TupTab knd enc news d D) (hs : ∀ p ∈ news, p ∈ news') : TupTab knd enc news' d D := by
  obtain ⟨lo, o1, es, ep, xs, hm1, hx, hdat, he, hn, hk, hf⟩ := T
  exact ⟨lo, o1, es, ep, xs, hs _ hm1, hx, hdat, he, hn, fun q hq => let ⟨ok, hok, tk⟩ := hk q hq; ⟨ok, hs _ hok, tk⟩, hf⟩
theorem SymAt.mono {w : World} {x dx TX AN FL FD n1 n2 : Nat} {nw nw' : List (Addr × Obj)} (Y : SymAt w x dx TX AN FL FD n1 n2 nw) (hs : ∀ p ∈ nw, p ∈ nw') : SymAt w x dx TX AN FL FD n1 n2 nw' := by
  obtain ⟨mx, ⟨ey, ny, md, hY⟩, ⟨tx, k1, mtx, ltx⟩, ⟨oA, kvs, D, man, hD, hF, hS, lD⟩, ⟨fl, kf, mfl, lfl⟩, ⟨D2, hT, hS2, lD2⟩⟩ := Y
  exact ⟨hs _ mx, ⟨ey, ny, hs _ md, hY⟩, ⟨tx, k1, hs _ mtx, ltx⟩, ⟨oA, kvs, D, hs _ man, hD, hF, hS, lD⟩, ⟨fl, kf, hs _ mfl, lfl⟩, ⟨D2, TupTab_mono hT hs, hS2, lD2⟩⟩
def notIn (own : List (Addr × Obj)) (p : Addr × Obj) : Bool := !(own.any fun q => q.1 == p.1)
theorem notIn_iff {own : List (Addr × Obj)} {p : Addr × Obj} : notIn own p = true ↔ ∀ q ∈ own, q.1 ≠ p.1 := by
  unfold notIn
  rw [Bool.not_eq_true', List.any_eq_false]
  exact ⟨fun h q hq e => h q hq (by simpa using e), fun h q hq e => h q hq (by simpa using e)⟩
theorem SymAt.off {w : World} {x dx TX AN FL FD n1 n2 m1 m2 : Nat} {h₀ h : Heap} {L : Nat} {nw nw0 own : List (Addr × Obj)} (Y : SymAt w x dx TX AN FL FD n1 n2 nw) (Y0 : SymAt w x dx TX AN FL FD m1 m2 nw0) (N : News h₀ L h nw) (hw : ∀ p ∈ own, p ∈ nw) (ho : OwnOff own (nw0.map (·.1))) (hc : ∀ p ∈ own, p.2.cls = .type "tuple_iterator") : SymAt w x dx TX AN FL FD n1 n2 (nw.filter (notIn own)) := by
  obtain ⟨mx, ⟨ey, ny, md, hY⟩, ⟨tx, k1, mtx, ltx⟩, ⟨oA, kvs, D, man, hD, hF, hS, lD⟩, ⟨fl, kf, mfl, lfl⟩, ⟨D2, hT, hS2, lD2⟩⟩ := Y
  obtain ⟨mx0, ⟨_, _, md0, _⟩, ⟨_, _, mtx0, _⟩, ⟨_, _, _, man0, _⟩, ⟨_, _, mfl0, _⟩, ⟨_, hT0, _⟩⟩ := Y0
  have k : ∀ {a : Nat} {o o0 : Obj}, (a, o) ∈ nw → (a, o0) ∈ nw0 → (a, o) ∈ nw.filter (notIn own) := fun {a o o0} h h0 => List.mem_filter.mpr ⟨h, notIn_iff.mpr fun q hq => ho q hq a (List.mem_map.mpr ⟨_, h0, rfl⟩)⟩
  obtain ⟨_, o0, _, _, _, hm0, _⟩ := hT0
  obtain ⟨lo, o1, es, ep, xs, hm1, hx, hdat, he, hn, hk, hf⟩ := hT
  refine ⟨k mx mx0, ⟨ey, ny, k md md0, hY⟩, ⟨tx, k1, k mtx mtx0, ltx⟩, ⟨oA, kvs, D, k man man0, hD, hF, hS, lD⟩, ⟨fl, kf, k mfl mfl0, lfl⟩, ⟨D2, ⟨lo, o1, es, ep, xs, k hm1 hm0, hx, hdat, he, hn, fun q hq => ?_, hf⟩, hS2, lD2⟩⟩
  obtain ⟨ok, hok, tk⟩ := hk q hq
  refine ⟨ok, List.mem_filter.mpr ⟨hok, notIn_iff.mpr fun r hr e => ?_⟩, tk⟩
  have h1 := N.get (hw r hr)
  have h2 := N.get hok
  rw [show r.1 = q.2.1 from e] at h1
  have h3 : r.2 = ok := Option.some.inj (h1.symm.trans h2)
  have h4 := hc r hr
  rw [h3, tk.1] at h4
  injection h4 with h4
  exact absurd h4 (by decide)
abbrev tupO (vs : List Value) : Obj := { cls := .type "tuple", data := .seq vs.toArray }
section
variable {prog : Program} {w : World} {A : Around} {E : Value → Shared → Prop} {s : Shared} {env : Env} {h₀ : Heap} {x : Str} {body : List Stmt} {Q : Flow → Shared → Prop}
theorem my_tuple {l : Addr} {vs : List Value} {m₀ : Str → Option Value} {news : List (Addr × Obj)} (J : Nat → (Str → Option Value) → List (Addr × Obj) → Prop)
    (hh : A.handled = none) (hl : (l, tupO vs) ∈ news) (F : Fr h₀ env.locals s.heap m₀) (N : News h₀ env.locals s.heap news) (hj : J 0 m₀ news)
    (turn : ∀ i v m₁ news₁ h tk own, vs[i]? = some v → OwnOff own (news₁.map (·.1)) → (∀ p ∈ own, p.2.cls = .type "tuple_iterator") → (l, tupO vs) ∈ news₁ → J i m₁ news₁ → Fr h₀ env.locals h (fun y => if y = x then some v else m₁ y) → News h₀ env.locals h (news₁ ++ own) →
      wpAny (model prog w) A (execs body env) (InvPostG h₀ env.locals (fun m' nx => (l, tupO vs) ∈ nx ∧ J (i + 1) m' nx) own { s with heap := h, toks := tk } Q) E { s with heap := h, toks := tk })
    (done : ∀ m₁ news₁ h tk, J vs.length m₁ news₁ → Fr h₀ env.locals h m₁ → News h₀ env.locals h news₁ → Q .next { s with heap := h, toks := tk }) :
    wpAny (model prog w) A (pyIter (.ref l)) (fun it s₂ => LoopAtV prog w A h₀ env x body Q E it s₂) E s := by
  have hol : s.heap.get? l = some (tupO vs) := (N _ hl).1
  have hls : s.heap.IsTuple l vs.toArray := ⟨_, hol, rfl, _, rfl⟩
  have hne : l ≠ s.heap.objs.size := Nat.ne_of_lt (Heap.lt_size hol)
  refine wpAny_pyIter_tuple hls ?_
  have W := Walks.tuple (prog := prog) (w := w) hh s.heap.objs.size l hne vs.toArray
  rw [show vs.toArray.size = vs.length by simp] at W
  refine ⟨_, _, _, vs.length, _, _, m₀, news, (fun i m nx => (l, tupO vs) ∈ nx ∧ J i m nx), rfl, W, ?_, ?_, ?_, ⟨⟨_, Heap.get?_push_size _ rfl, rfl, rfl⟩, hls.at fun o e => Heap.get?_push_of_some _ e⟩, F.push _, (fun p hp => ⟨Heap.get?_push_of_some _ (N p hp).1, (N p hp).2⟩), ⟨hl, hj⟩, ?_, ?_⟩
  · intro hm
    rcases List.mem_cons.mp hm with e | hm
    · exact absurd F.ns.lt (e ▸ Nat.lt_irrefl _)
    · exact (N _ hl).2.1 ((List.mem_singleton.mp hm).symm)
  · intro b hb
    rw [List.mem_singleton.mp hb]
    exact next_is_new F
  · intro p hp hI
    exact absurd (Heap.lt_size (N p hp).1) ((List.mem_singleton.mp hI) ▸ Nat.lt_irrefl _)
  · rintro i v m₁ news₁ s₁ own ⟨hh', tk', rfl⟩ hin hP ⟨hl₁, hJ⟩ hoff hown hget hfp hst F₁ N₁
    obtain ⟨⟨oI, hoI, hcI, _⟩, _⟩ := id hst
    have hIown : (s.heap.objs.size, oI) ∈ own.filter fun p => decide (p.1 = s.heap.objs.size) := List.mem_filter.mpr ⟨hfp _ (List.mem_cons.mpr (.inl rfl)) (next_is_new F) _ hoI, by simp⟩
    have at1 : ∀ p ∈ own.filter fun p => decide (p.1 = s.heap.objs.size), p ∈ own ∧ p.1 = s.heap.objs.size := fun p hp => ⟨(List.mem_filter.mp hp).1, by simpa using (List.mem_filter.mp hp).2⟩
    refine wpAny_mono (turn i v m₁ news₁ hh' tk' (own.filter fun p => decide (p.1 = s.heap.objs.size)) (by simpa using hP) ?_ ?_ hl₁ hJ F₁ ?_) (fun f s₂ p => ?_) fun _ _ e => e
    · intro p hp b hb e
      obtain ⟨q, hq, rfl⟩ := List.mem_map.mp hb
      exact hoff q hq (List.mem_singleton.mpr (e ▸ (at1 p hp).2))
    · intro p hp
      have h1 := hget p (at1 p hp).1
      rw [(at1 p hp).2, hoI] at h1
      rw [← Option.some.inj h1]; exact hcI
    · intro p hp
      rcases List.mem_append.mp hp with hp | hp
      · exact N₁ p (List.mem_append.mpr (.inr hp))
      · exact N₁ p (List.mem_append.mpr (.inl (at1 p hp).1))
    have hlo : hh'.get? l = some (tupO vs) := (N₁ _ (List.mem_append.mpr (.inr hl₁))).1
    have fin : InvEndG h₀ env.locals (fun m' nx => (l, tupO vs) ∈ nx ∧ J (i + 1) m' nx) (own.filter fun p => decide (p.1 = s.heap.objs.size)) { s with heap := hh', toks := tk' } s₂ →
        LoopStepU h₀ env.locals [s.heap.objs.size] own (fun m nx => (l, tupO vs) ∈ nx ∧ J (i + 1) m nx) { s with heap := hh', toks := tk' } .next s₂ := by
      rintro ⟨h', tk, m', news', nx, e, F', N', hn, ho, ha, hm⟩
      refine ⟨rfl, h', tk, m', nx, e, F', fun p hp => ?_, fun p hp hq => ?_, hm⟩
      · rcases List.mem_append.mp hp with h | h
        · by_cases hI : p.1 = s.heap.objs.size
          · exact N' p (ho p (List.mem_filter.mpr ⟨h, by simpa using hI⟩))
          · have h1 : p.1 = l := by
              rcases List.mem_cons.mp (hown p h) with h2 | h2
              · exact absurd h2 hI
              · exact List.mem_singleton.mp h2
            have h2 := hget p h
            rw [h1, hlo] at h2
            rw [show p = (l, tupO vs) from Prod.ext h1 (Option.some.inj h2).symm]
            exact N' _ (hn _ hm.1)
        · exact N' p (hn p h)
      · exact ha _ hIown p.1 (List.mem_map.mpr ⟨p, hp, rfl⟩) (List.mem_singleton.mp hq).symm
    cases f with
    | ret v => exact .ret p
    | brk => exact .brk p
    | next => exact .next (fin p)
    | cont => exact .cont (fin p)
  · rintro h' tk m' news' F' N' _ ⟨_, hJ⟩
    exact done m' news' h' tk hJ F' N'
end
local macro_rules | `(tactic| walk_at "My callY") => `(tactic| ((case B => k_asm); (case F => k_asm); (case X => k_asm); (case N => k_asm); (case T => k_asm); (case hk => first | exact rfl | with_reducible assumption); (case hdp => first | ((try simp only [depth_under_make, depth_deeper]); (try dsimp only [ktrTop]); omega) | ktr_room); (case hun => first | ((try simp only [units_under_make, units_deeper]); (try dsimp only [ktrTop]); omega) | ktr_units); (case Y => with_reducible assumption); (case od => with_reducible assumption)))
local macro_rules | `(tactic| walk_at "call ref") => `(tactic| (k_here; (try dsimp only); (with_reducible show wpAny _ _ (call (Value.ref 88) _) _ _ _); k_dflt (refine' c_atomS (B := ?B) (F := ?F) (X := ?X) (N := ?N) (T := ?T) (hk := ?hk) (hdp := ?hdp) (hun := ?hun) (Y := ?Y) (od := ?od) (lo := ?z1) (hn1 := ?z2) ?_; walk_at "My callY"; (case z1 => with_reducible assumption); (case z2 => omega); intro h' tk' nw' i' t' F' N' Y' keep'; (try dsimp only))))
local macro_rules | `(tactic| walk_at "call ref") => `(tactic| (k_here; (try dsimp only); (with_reducible show wpAny _ _ (call (Value.ref 102) _) _ _ _); k_dflt (refine' c_functorS (B := ?B) (F := ?F) (X := ?X) (N := ?N) (T := ?T) (hk := ?hk) (hdp := ?hdp) (hun := ?hun) (Y := ?Y) (od := ?od) (hn2 := ?z2) ?_; walk_at "My callY"; (case z2 => omega); intro h' tk' nw' i' t' F' N' Y' keep'; (try dsimp only))))
set_option maxHeartbeats 8000000 in
theorem c_funcS {w : World} {mean : ExcName → Option Value} {mg mb : Str → Option Value} {dp un : Nat} {gd : Option (List Code)} {cn : Str} {cs : Scope} {a : Addr} {ccd : Value} {cl : List (Str × Addr)} {outer : List Env} {A₀ : Around} {base h₀ : Heap} {L : Addr} {m : Str → Option Value} {s : Shared} {Q E : Value → Shared → Prop} {x dx TX AN FL FD n1 n2 : Nat} {ey : List DictEntry} {ny : Nat} {nw : List (Addr × Obj)} {j : Int} {u : Str} {t t2 : Tok}
  (B : Below A₀ base outer h₀) (F : Fr h₀ L s.heap m) (X : (hd.heap_39 w.params).In h₀) (N : News h₀ L s.heap nw) (T : TopL mean mg mb h₀) (hk : cs.kind = .function) (hdp : dp + 6 < recursionLimit) (hun : un + 48 < cLine)
  (Y : SymAt w x dx TX AN FL FD n1 n2 nw) (od : dx < x ∧ x < TX ∧ TX < AN ∧ AN < FL ∧ FL < FD) (lo : (AN == sysModules) = false) (hn1 : n1 ≤ 200) (hn2 : n2 ≤ 200) (mx : (x, instObj 154 dx) ∈ nw) (md : (dx, dictOf ey ny) ∈ nw) (hY : SyIs ey TX AN FL FD)
  (hret : ∀ h' tk' nw' i t', Fr h₀ L h' m → News h₀ L h' nw' → SymAt w x dx TX AN FL FD (n1 + 1) (n2 + 1) nw' → (∀ p ∈ nw, p.1 ≠ TX → p.1 ≠ AN → p.1 ≠ FL → p.1 ≠ FD → p ∈ nw') → Q (.int i t') { s with heap := h', toks := tk' }) :
   wpAny (model PySem.Challenge.rw_rh0105_01.row.prog w) (ktrTop dp un gd cn cs L a ccd cl outer) (call (.ref 109) [.ref x, .str u t, .int j t2]) Q E s := by
  refine wpAny_call ?_
  k_dflt (refine' code_def (binds := [(Str.ofString "self", .ref x), (Str.ofString "text", .str u t), (Str.ofString "arity", .int j t2)]) ?k1 ?k2 ?k3 ?k4 ?k5 ?kA ?kF ?kK ?k6 ?k7 ?k8 ?k9 ?kB ?_ ?c2 ?c3 ?c4 ?c5; walk_at "My enter")
  k_steps
  rename ∀ p ∈ _, _ → _ => k2
  rename ∀ p ∈ nw, _ → _ => k1
  rename News h₀ _ _ _ => N9
  exact hret _ _ _ _ _ (by assumption) N9 (by assumption) (fun p hp h1 h2 h3 h4 => k2 p (k1 p hp h1 h2 h3 h4) h1 h2 h3 h4)

end
section
local macro_rules | `(tactic| walk_at "My enter") => `(tactic| ((case kA => exact rfl); (case kF => exact rfl); (case kK => first | exact rfl | assumption); (case k1 => k_asm); (case k2 => k_asm); (case k3 => k_asm); (case k4 => k_asm); (case k5 => k_asm); (case k6 => k_is); (case k7 => k_is); (case k8 => ktr_room); (case k9 => exact BindsTo.of_eq rfl); (case c5 => decide); (case kB => exact locs rfl); (case c2 => exact rfl); (case c3 => exact rfl); (case c4 => exact rfl); k_whole; intro g' L' h' FG' F' N' B' X' T'; (try dsimp only); (try k_fold)))
local macro_rules | `(tactic| walk_at "My mem") => `(tactic| first | exact List.Mem.head _ | (refine' List.Mem.tail _ ?_; walk_at "My mem") | assumption)
local macro_rules | `(tactic| k_all) => `(tactic| with_reducible assumption)
local macro_rules | `(tactic| walk_at "My callY") => `(tactic| ((case B => k_asm); (case F => k_asm); (case X => k_asm); (case N => k_asm); (case T => k_asm); (case hk => first | exact rfl | with_reducible assumption); (case hdp => first | ((try simp only [depth_under_make, depth_deeper]); (try dsimp only [ktrTop]); omega) | ktr_room); (case hun => first | ((try simp only [units_under_make, units_deeper]); (try dsimp only [ktrTop]); omega) | ktr_units); (case Y => with_reducible assumption); (case od => with_reducible assumption)))
local macro_rules | `(tactic| walk_at "call ref") => `(tactic| (k_here; (try dsimp only); (with_reducible show wpAny _ _ (call (Value.ref 88) _) _ _ _); k_dflt (refine' c_atomS (B := ?B) (F := ?F) (X := ?X) (N := ?N) (T := ?T) (hk := ?hk) (hdp := ?hdp) (hun := ?hun) (Y := ?Y) (od := ?od) (lo := ?z1) (hn1 := ?z2) ?_; walk_at "My callY"; (case z1 => with_reducible assumption); (case z2 => omega); intro h' tk' nw' i' t' F' N' Y' keep'; (try dsimp only))))
local macro_rules | `(tactic| walk_at "call ref") => `(tactic| (k_here; (try dsimp only); (with_reducible show wpAny _ _ (call (Value.ref 102) _) _ _ _); k_dflt (refine' c_functorS (B := ?B) (F := ?F) (X := ?X) (N := ?N) (T := ?T) (hk := ?hk) (hdp := ?hdp) (hun := ?hun) (Y := ?Y) (od := ?od) (hn2 := ?z2) ?_; walk_at "My callY"; (case z2 => omega); intro h' tk' nw' i' t' F' N' Y' keep'; (try dsimp only))))
local macro_rules | `(tactic| walk_at "call ref") => `(tactic| (k_here; (try dsimp only); (with_reducible show wpAny _ _ (call (Value.ref 109) _) _ _ _); k_dflt (refine' c_funcS (B := ?B) (F := ?F) (X := ?X) (N := ?N) (T := ?T) (hk := ?hk) (hdp := ?hdp) (hun := ?hun) (Y := ?Y) (od := ?od) (lo := ?z1) (hn1 := ?z2) (hn2 := ?z3) (mx := ?z4) (md := ?z5) (hY := ?z6) ?_; walk_at "My callY"; (case z1 => with_reducible assumption); (case z2 => omega); (case z3 => omega); (case z4 => walk_at "My mem"); (case z5 => walk_at "My mem"); (case z6 => with_reducible assumption); intro h' tk' nw' i' t' F' N' Y' keep'; (try dsimp only))))
local macro_rules | `(tactic| walk_at "exec For") => `(tactic| refine halt ?_)
local macro_rules | `(tactic| walk_at "exec For Name Call cons nil") => `(tactic| refine halt ?_)
local macro_rules | `(tactic| walk_at "newTuple") => `(tactic| (k_here; k_dflt (refine' kup_newTuple ?F ?N ?_ ?z; (case F => k_asm); (case N => k_asm); (case z => kmk_size)); intro D' h' F' N' l1; clear l1; (try k_sweep)))
local macro_rules | `(tactic| k_get) => `(tactic| with_reducible assumption)
local macro_rules | `(tactic| walk_at "pyIter ref") => `(tactic| refine halt ?_)
local macro_rules | `(tactic| walk_at "call ref") => `(tactic| (k_here; (try dsimp only [List.nil_append, List.append_nil]); (with_reducible show wpAny _ _ (call (Value.ref _) []) _ _ _); refine wpAny_call ?_; k_dflt (refine' code_def (binds := []) ?k1 ?k2 ?k3 ?k4 ?k5 ?kA ?kF ?kK ?k6 ?k7 ?k8 ?k9 ?kB ?_ ?c2 ?c3 ?c4 ?c5; walk_at "My enter")))
def Keep4 (TX AN FL FD : Nat) (nw nw' : List (Addr × Obj)) : Prop := ∀ p ∈ nw, p.1 ≠ TX → p.1 ≠ AN → p.1 ≠ FL → p.1 ≠ FD → p ∈ nw'
theorem sym_start {w : World} {h₀ h : Heap} {L : Nat} {news : List (Addr × Obj)} {TU x dx TX AN FL FD : Nat} {vs : List Value} {o1 o2 : Obj} {ey : List DictEntry} {ny : Nat}
  (N : News h₀ L h ((TU, tupO vs) :: (FD, o2) :: (FL, listOf (#[] : Array Value) 0) :: (AN, o1) :: (TX, listOf (#[] : Array Value) 0) :: (x, instObj 154 dx) :: (dx, dictOf ey ny) :: news))
  (hs1 : o1.IsDictOf (PySem.strKind PySem.Challenge.rw_rh0105_01.row.prog w) []) (hs2 : o2.IsDictOf (PySem.strKind PySem.Challenge.rw_rh0105_01.row.prog w) []) (lo2 : (FD == sysModules) = false) (lo1 : (AN == sysModules) = false) (hY : SyIs ey TX AN FL FD) (od : dx < x ∧ x < TX ∧ TX < AN ∧ AN < FL ∧ FL < FD) (hx : ∀ p ∈ news, p.1 < dx) (hvs : ∀ v ∈ vs, ∃ u t, v = .str u t) (hvl : vs.length ≤ 40) :
  ∃ (nw : List (Addr × Obj)) (vs' : List Value) (TX AN FL FD : Nat), News h₀ L h nw ∧ SymAt w x dx TX AN FL FD 0 0 nw ∧ (TU, tupO vs') ∈ nw ∧ (∀ p ∈ news, p ∈ nw ∧ p.1 ≠ TX ∧ p.1 ≠ AN ∧ p.1 ≠ FL ∧ p.1 ≠ FD) ∧ (dx < x ∧ x < TX ∧ TX < AN ∧ AN < FL ∧ FL < FD) ∧ (AN == sysModules) = false ∧ (∀ v ∈ vs', ∃ u t, v = .str u t) ∧ vs'.length ≤ 40 := by
  refine ⟨_, vs, TX, AN, FL, FD, N, ⟨.tail _ (.tail _ (.tail _ (.tail _ (.tail _ (.head _))))), ⟨ey, ny, .tail _ (.tail _ (.tail _ (.tail _ (.tail _ (.tail _ (.head _)))))), hY⟩, ⟨[], 0, .tail _ (.tail _ (.tail _ (.tail _ (.head _)))), Nat.le_refl _⟩, ⟨o1, [], [], .tail _ (.tail _ (.tail _ (.head _))), hs1, .nil, .nil, Nat.le_refl _⟩, ⟨[], 0, .tail _ (.tail _ (.head _)), Nat.le_refl _⟩, ⟨[], TupTab.ofEmpty (.tail _ (.head _)) lo2 hs2, .nil, Nat.le_refl _⟩⟩, .head _, ?_, od, lo1, hvs, hvl⟩
  intro p hp
  have h1 : @LT.lt Nat _ p.1 dx := hx p hp
  obtain ⟨a1, a2, a3, a4, a5⟩ := od
  refine ⟨.tail _ (.tail _ (.tail _ (.tail _ (.tail _ (.tail _ (.tail _ hp)))))), Nat.ne_of_lt (Nat.lt_trans h1 (by omega)), Nat.ne_of_lt (Nat.lt_trans h1 (by omega)), Nat.ne_of_lt (Nat.lt_trans h1 (by omega)), Nat.ne_of_lt (Nat.lt_trans h1 (by omega))⟩
theorem frame_eq {x : Str} {v : Value} {m₁ m₀ : Str → Option Value} (h : ∀ z, z ≠ x → m₁ z = m₀ z) : (fun y => if y = x then some v else m₁ y) = fun y => if y = x then some v else m₀ y := funext fun y => by
  by_cases e : y = x
  · rw [if_pos e, if_pos e]
  · rw [if_neg e, if_neg e, h y e]
theorem frame_out {x : Str} {m₁ m₀ : Str → Option Value} (h : ∀ z, z ≠ x → m₁ z = m₀ z) : m₁ = fun y => if y = x then m₁ y else m₀ y := funext fun y => by
  by_cases e : y = x
  · rw [if_pos e]
  · rw [if_neg e, h y e]
theorem SymAt.row {w : World} {x dx TX AN FL FD n1 n2 : Nat} {h₀ h : Heap} {L : Nat} {nw : List (Addr × Obj)} (Y : SymAt w x dx TX AN FL FD n1 n2 nw) (N : News h₀ L h nw) {r : Nat} {o : Obj} (hr : (r, o) ∈ nw) (ho : o.cls = .type "tuple") : r ≠ TX ∧ r ≠ AN ∧ r ≠ FL ∧ r ≠ FD := by
  obtain ⟨mx, ⟨ey, ny, md, hY⟩, ⟨tx, k1, mtx, ltx⟩, ⟨oA, kvs, D, man, hD, hF, hS, lD⟩, ⟨fl, kf, mfl, lfl⟩, ⟨D2, ⟨_, oF, _, _, _, mF, cF, _⟩, hS2, lD2⟩⟩ := Y
  have go : ∀ {q : Nat} {o' : Obj}, (q, o') ∈ nw → o'.cls ≠ .type "tuple" → r ≠ q := by
    intro q o' hq hc e
    have h1 := N.get hr
    have h2 := N.get hq
    rw [e] at h1
    exact hc (Option.some.inj (h1.symm.trans h2) ▸ ho)
  obtain ⟨_, _, cA, _⟩ := hD
  refine ⟨go mtx ?_, go man ?_, go mfl ?_, go mF ?_⟩
  · intro e; injection e with e; exact absurd e (by decide)
  · rw [cA.1]; intro e; injection e with e; exact absurd e (by decide)
  · intro e; injection e with e; exact absurd e (by decide)
  · rw [cF.1]; intro e; injection e with e; exact absurd e (by decide)
theorem sym_end {w : World} {h₀ h h' : Heap} {L l x dx TX AN FL FD n1 n2 k1 k2 : Nat} {st nx own nw' : List (Addr × Obj)} {vs : List Value} {z9 : Str} {m' m₀ : Str → Option Value} {s₁ : Shared} {tk : Nat}
  (F : Fr h₀ L h' m') (N : News h₀ L h' nw') (Y : SymAt w x dx TX AN FL FD n1 n2 nw') (Y0 : SymAt w x dx TX AN FL FD k1 k2 nx) (N0 : News h₀ L h (nx ++ own)) (keep : Keep4 TX AN FL FD (nx ++ own) nw') (hoff : OwnOff own (nx.map (·.1))) (hcl : ∀ p ∈ own, p.2.cls = .type "tuple_iterator") (hT : (l, tupO vs) ∈ nx) (hst : Keep4 TX AN FL FD st nx) (hm : ∀ z, z ≠ z9 → m' z = m₀ z) :
  InvEndG h₀ L (fun m' nx => (l, tupO vs) ∈ nx ∧ SymAt w x dx TX AN FL FD n1 n2 nx ∧ Keep4 TX AN FL FD st nx ∧ (∀ z, z ≠ z9 → m' z = m₀ z)) own s₁ { s₁ with heap := h', toks := tk } := by
  have Y1 := id Y0
  obtain ⟨_, _, ⟨_, _, mtx, _⟩, ⟨_, _, _, man, _⟩, ⟨_, _, mfl, _⟩, ⟨_, ⟨_, _, _, _, _, mF, _⟩, _⟩⟩ := Y1
  have at1 : ∀ {q : Nat} {o : Obj}, (q, o) ∈ nx → ∀ p ∈ own, p.1 ≠ q := fun {q o} hq p hp => hoff p hp q (List.mem_map.mpr ⟨_, hq, rfl⟩)
  have hown : ∀ p ∈ own, p ∈ nw' := fun p hp => keep p (List.mem_append_right _ hp) (at1 mtx p hp) (at1 man p hp) (at1 mfl p hp) (at1 mF p hp)
  have kp : ∀ p ∈ nx, p ∈ nw' → p ∈ nw'.filter (notIn own) := fun p hp h => List.mem_filter.mpr ⟨h, notIn_iff.mpr fun q hq => hoff q hq p.1 (List.mem_map.mpr ⟨p, hp, rfl⟩)⟩
  have hTn := Y0.row (news_sub N0 fun p hp => List.mem_append_left _ hp) hT rfl
  refine ⟨h', tk, m', nw', nw'.filter (notIn own), rfl, F, N, (fun p hp => (List.mem_filter.mp hp).1), hown, ?_, kp _ hT (keep _ (List.mem_append_left _ hT) hTn.1 hTn.2.1 hTn.2.2.1 hTn.2.2.2), Y.off Y0 N hown hoff hcl, ?_, hm⟩
  · intro p hp b hb e
    obtain ⟨q, hq, rfl⟩ := List.mem_map.mp hb
    exact notIn_iff.mp (List.mem_filter.mp hq).2 p hp e
  · intro p hp h1 h2 h3 h4
    have h5 := hst p hp h1 h2 h3 h4
    exact kp p h5 (keep p (List.mem_append_left _ h5) h1 h2 h3 h4)
theorem sym_start2 {w : World} {h₀ h : Heap} {L : Nat} {nx : List (Addr × Obj)} {TU x dx TX AN FL FD n1 n2 : Nat} {vs : List Value} {rest : List (Addr × Obj)}
  (N : News h₀ L h ((TU, tupO vs) :: rest)) (Y : SymAt w x dx TX AN FL FD n1 n2 nx) (hrow : ∀ v ∈ vs, ∃ (r : Nat) (u : Str) (t : Tok) (j : Int) (t2 : Tok), v = .ref r ∧ (r, tupO [.str u t, .int j t2]) ∈ rest) (hvl : vs.length ≤ 40) (hs : ∀ p ∈ nx, p ∈ rest) :
  ∃ (nw : List (Addr × Obj)) (vs' : List Value), News h₀ L h nw ∧ SymAt w x dx TX AN FL FD n1 n2 nw ∧ (TU, tupO vs') ∈ nw ∧ (∀ p ∈ nx, p ∈ nw) ∧ (∀ v ∈ vs', ∃ (r : Nat) (u : Str) (t : Tok) (j : Int) (t2 : Tok), v = .ref r ∧ (r, tupO [.str u t, .int j t2]) ∈ nw) ∧ vs'.length ≤ 40 :=
  ⟨_, vs, N, Y.mono fun p hp => .tail _ (hs p hp), .head _, fun p hp => .tail _ (hs p hp), fun v hv => let ⟨r, u, t, j, t2, e, h⟩ := hrow v hv; ⟨r, u, t, j, t2, e, .tail _ h⟩, hvl⟩
set_option maxHeartbeats 8000000 in
theorem c_symbols {w : World} {mean : ExcName → Option Value} {mg mb : Str → Option Value} {dp un : Nat} {gd : Option (List Code)} {cn : Str} {cs : Scope} {a : Addr} {ccd : Value} {cl : List (Str × Addr)} {outer : List Env} {A₀ : Around} {base h₀ : Heap} {L : Addr} {m : Str → Option Value} {s : Shared} {Q E : Value → Shared → Prop} {news : List (Addr × Obj)}
  (B : Below A₀ base outer h₀) (F : Fr h₀ L s.heap m) (X : (hd.heap_39 w.params).In h₀) (N : News h₀ L s.heap news) (T : TopL mean mg mb h₀) (hk : cs.kind = .function) (hdp : dp + 12 < recursionLimit) (hun : un + 96 < cLine)
  (hret : ∀ h' tk' (q : Nat), Fr h₀ L h' m → News h₀ L h' news → Q (.ref q) { s with heap := h', toks := tk' }) :
   wpAny (model PySem.Challenge.rw_rh0105_01.row.prog w) (ktrTop dp un gd cn cs L a ccd cl outer) (call (.ref 154) []) Q E s := by
  k_dflt (refine' call_cls ?k1 ?k2 ?k3 ?k4 ?k5 ?k6 ?_; (case k1 => k_asm); (case k2 => k_asm); (case k3 => k_asm); (case k4 => k_is); (case k5 => k_is); (case k6 => k_is))
  intro (x : Nat) (dx : Nat) h1 F1 N1 l1 l2
  clear N F
  have l9 := l1
  k_lt2 l2
  have offd : ∀ p ∈ news, p.1 ≠ dx := fun p hp => Nat.ne_of_lt (l1 p hp)
  k_dflt (refine' code_def (binds := [(Str.ofString "self", .ref x)]) ?k1 ?k2 ?k3 ?k4 ?k5 ?kA ?kF ?kK ?k6 ?k7 ?k8 ?k9 ?kB ?_ ?c2 ?c3 ?c4 ?c5; walk_at "My enter")
  k_steps
  unfold Halt
  (rename Fr _ _ _ _ => lF'); (with_unfolding_all refine' For_invVF lF' ?k1 ?k2 ?_; (case k1 => exact rfl); (case k2 => exact rfl); k_whole)
  k_steps
  unfold Halt
  rename News _ _ _ _ => N9
  rename Fr _ _ _ _ => F9
  obtain ⟨nw, vs, TX, AN, FL, FD, N8, Y8, hTU, hst, od, lo8, hstr, hvl⟩ := sym_start N9 (by with_reducible assumption) (by with_reducible assumption) (by with_reducible assumption) (by with_reducible assumption) ⟨by k_get, by k_get, by k_get, by k_get, by k_get, by k_get, by k_get⟩ (by omega) l9 (by ((repeat refine List.forall_mem_cons.mpr ⟨⟨_, _, rfl⟩, ?_⟩); exact List.forall_mem_nil _)) (Nat.le_of_ble_eq_true rfl)
  clear N9
  k_dflt (refine' my_tuple (fun i m nx => SymAt w x dx TX AN FL FD i 0 nx ∧ Keep4 TX AN FL FD nw nx ∧ (∀ z, z ≠ Str.ofString "text" → m z = List.lookup z [(Str.ofString "self", Value.ref x)].reverse)) rfl hTU F9 N8 ?J0 ?turn ?done)
  case J0 => exact ⟨Y8, fun p hp _ _ _ _ => hp, fun _ _ => rfl⟩
  case turn =>
    clear F9 N8 Y8
    intro i v m₁ nx h tk9 own hv hoff hcl hT7 hJ F7 N7
    obtain ⟨Y7, hst7, hm7⟩ := hJ
    obtain ⟨u, t, rfl⟩ := hstr v (List.mem_of_getElem? hv)
    have hil : i < vs.length := (List.getElem?_eq_some_iff.mp hv).1
    have Y6 := Y7.mono (nw' := nx ++ own) (fun p hp => List.mem_append_left _ hp)
    obtain ⟨mx, ⟨ey, ny, md, hY⟩, _⟩ := id Y6
    have hY1 := hY.atom
    rw [frame_eq hm7] at F7
    refine post_gen fun QQ hQQ => ?_
    k_steps
    refine hQQ _ _ ?_
    rename ∀ p ∈ nx ++ own, _ → _ => k2
    rename SymAt w x dx TX AN FL FD (i + 1) _ _ => Y9
    rename News _ _ _ _ => N9
    k_dflt (refine' sym_end ?F N9 Y9 Y7 N7 k2 hoff hcl hT7 hst7 ?hm)
    case F => assumption
    case hm => (intro z hz; exact if_neg hz)
  case done =>
    clear F9 N8 Y8
    intro m₁ nx h tk9 hJ F7 N7
    obtain ⟨Y7, hst7, hm7⟩ := hJ
    rw [frame_out hm7] at F7
    dsimp only
    k_steps
    unfold Halt
    clear lF'
    (rename Fr _ _ _ _ => lF'); (with_unfolding_all refine' For_invVF lF' ?k1 ?k2 ?_; (case k1 => exact rfl); (case k2 => exact rfl); k_whole)
    k_steps
    unfold Halt
    rename News _ _ _ _ => N9
    rename Fr _ _ _ _ => F9

    obtain ⟨nw2, vs2, N8, Y8, hTU2, hk2, hrow, hvl2⟩ := sym_start2 N9 Y7 (by ((repeat refine List.forall_mem_cons.mpr ⟨⟨_, _, _, _, _, rfl, by walk_at "My mem"⟩, ?_⟩); exact List.forall_mem_nil _)) (Nat.le_of_ble_eq_true rfl) (by (intro p hp; repeat (first | exact hp | refine List.Mem.tail _ ?_)))
    clear N9
    k_dflt (refine' my_tuple (fun i m nx => SymAt w x dx TX AN FL FD (vs.length + i) i nx ∧ Keep4 TX AN FL FD nw2 nx ∧ (∀ z, z ≠ Str.ofString "row" → m z = (fun y => if y = Str.ofString "text" then m₁ y else List.lookup y [(Str.ofString "self", Value.ref x)].reverse) z)) rfl hTU2 F9 N8 ?J0 ?turn ?done)
    case J0 => exact ⟨Y8, fun p hp _ _ _ _ => hp, fun _ _ => rfl⟩
    case turn =>
      clear F9 Y7
      intro i v m₂ ny h2 tk2 own hv hoff hcl hT7 hJ F6 N6
      obtain ⟨Y6, hst6, hm6⟩ := hJ
      have hil : i < vs2.length := (List.getElem?_eq_some_iff.mp hv).1
      obtain ⟨r, u, t, j, t2, rfl, hr⟩ := hrow v (List.mem_of_getElem? hv)
      have hrn := Y8.row N8 hr rfl
      have hr6 : (r, tupO [.str u t, .int j t2]) ∈ ny ++ own := List.mem_append_left _ (hst6 _ hr hrn.1 hrn.2.1 hrn.2.2.1 hrn.2.2.2)
      have Y5 := Y6.mono (nw' := ny ++ own) (fun p hp => List.mem_append_left _ hp)
      obtain ⟨mx, ⟨ey, ny9, md, hY⟩, _⟩ := id Y5
      have hY1 := hY.func
      rw [frame_eq hm6] at F6
      clear N8 Y8 hm6
      refine post_gen fun QQ hQQ => ?_
      k_steps
      refine hQQ _ _ ?_
      rename ∀ p ∈ ny ++ own, _ → _ => k2
      rename SymAt w x dx TX AN FL FD (_ + 1) (i + 1) _ => Y9
      rename News _ _ _ _ => N9
      k_dflt (refine' sym_end ?F N9 Y9 Y6 N6 k2 hoff hcl hT7 hst6 ?hm)
      case F => assumption
      case hm => (intro z hz; exact if_neg hz)
    case done =>
      clear F9
      intro m₂ ny h2 tk2 hJ F6 N6
      obtain ⟨Y6, hst6, hm6⟩ := hJ
      clear N8
      rw [frame_out hm6] at F6
      dsimp only
      k_steps
      rename News h₀ _ _ _ => N9
      exact hret _ _ _ (by assumption) (news_sub N9 fun p hp => let ⟨q0, q1, q2, q3, q4⟩ := hst p hp; hst6 p (hk2 p (hst7 p q0 q1 q2 q3 q4)) q1 q2 q3 q4)

end
section
local macro_rules | `(tactic| walk_at "My enter") => `(tactic| ((case kA => exact rfl); (case kF => exact rfl); (case kK => first | exact rfl | assumption); (case k1 => k_asm); (case k2 => k_asm); (case k3 => k_asm); (case k4 => k_asm); (case k5 => k_asm); (case k6 => k_is); (case k7 => k_is); (case k8 => ktr_room); (case k9 => exact BindsTo.of_eq rfl); (case c5 => decide); (case kB => exact locs rfl); (case c2 => exact rfl); (case c3 => exact rfl); (case c4 => exact rfl); k_whole; intro g' L' h' FG' F' N' B' X' T'; (try dsimp only); (try k_fold)))
local macro_rules | `(tactic| walk_at "My mem") => `(tactic| first | exact List.Mem.head _ | (refine' List.Mem.tail _ ?_; walk_at "My mem") | assumption)
local macro_rules | `(tactic| k_all) => `(tactic| with_reducible assumption)
local macro_rules | `(tactic| walk_at "My in") => `(tactic| (refine' code_def ?k1 ?k2 ?k3 ?k4 ?k5 ?kA ?kF ?kK ?k6 ?k7 ?k8 ?k9 ?kB ?_ ?c2 ?c3 ?c4 ?c5; (case kA => exact rfl); (case kF => exact rfl); (case kK => first | exact rfl | assumption); (case k1 => k_asm); (case k2 => k_asm); (case k3 => k_asm); (case k4 => k_asm); (case k5 => k_asm); (case k6 => k_is); (case k7 => k_is); (case k8 => first | ((try simp only [depth_under_make, depth_deeper]); (try dsimp only [ktrTop]); omega) | ktr_room); (case k9 => first | exact BindsTo.of_eq rfl | exact binds_K (by k_in) rfl (by k_is) rfl rfl rfl); (case c5 => decide); (case kB => exact locs rfl); (case c2 => exact rfl); (case c3 => exact rfl); (case c4 => exact rfl); k_whole; intro g' L' h' FG' F' N' B' X' T'; (try dsimp only); (try k_fold)))
local macro_rules | `(tactic| walk_at "call ref") => `(tactic| (k_here; k_dflt (first
  | (refine' call_cls ?k1 ?k2 ?k3 ?k4 ?k5 ?k6 ?_; (case k1 => k_asm); (case k2 => k_asm); (case k3 => k_asm); (case k4 => k_is); (case k5 => k_is); (case k6 => k_is); k_whole; intro x' d' h' F' N' l1 l2; (try k_lt l1); (try k_lt2 l2); (try k_sweep); walk_at "My in")
  | (refine wpAny_call ?_; walk_at "My in"))))
theorem areas_end {R : Prop} {h₀ h : Heap} {L : Nat} {news : List (Addr × Obj)} {b1 b2 b3 : Addr × Obj} {A AD S SD HL KL TR CD : Nat} {ea es : List DictEntry} {na ns kh kk kt : Nat} {u1 u2 u3 u4 v1 v2 v3 : Tok}
  (N : News h₀ L h (b1 :: b2 :: b3 :: (TR, listOf ([] : List Value).toArray kt) :: (KL, listOf ([] : List Value).toArray kk) :: (HL, listOf ([] : List Value).toArray kh) :: (S, instObj 381 SD) :: (SD, dictOf es ns) :: (A, instObj 541 AD) :: (AD, dictOf ea na) :: news))
  (hA : AIs ea S CD 0 (-1) (-1) (-1) u1 u2 u3 u4) (hS : SIs es HL KL TR 0 0 v1 v2 v3) (ord : AD < A ∧ A < SD ∧ SD < S ∧ S < HL ∧ HL < KL ∧ KL < TR)
  (k : ∀ (S SD HL KL TR : Nat) ea na es ns kh kk kt u1 u2 u3 u4 v1 v2 v3, News h₀ L h ((A, instObj 541 AD) :: (AD, dictOf ea na) :: (S, instObj 381 SD) :: (SD, dictOf es ns) :: (HL, listOf ([] : List Value).toArray kh) :: (KL, listOf ([] : List Value).toArray kk) :: (TR, listOf ([] : List Value).toArray kt) :: news) → AIs ea S CD 0 (-1) (-1) (-1) u1 u2 u3 u4 → SIs es HL KL TR 0 0 v1 v2 v3 → (AD < A ∧ A < SD ∧ SD < S ∧ S < HL ∧ HL < KL ∧ KL < TR) → R) : R := by
  refine k S SD HL KL TR ea na es ns kh kk kt u1 u2 u3 u4 v1 v2 v3 (news_sub N fun p hp => ?_) hA hS ord
  simp only [List.mem_cons] at hp ⊢
  rcases hp with hp | hp | hp | hp | hp | hp | hp | hp
  all_goals simp only [hp, true_or, or_true]
set_option maxHeartbeats 8000000 in
theorem c_areas {w : World} {mean : ExcName → Option Value} {mg mb : Str → Option Value} {dp un : Nat} {gd : Option (List Code)} {cn : Str} {cs : Scope} {a : Addr} {ccd : Value} {cl : List (Str × Addr)} {outer : List Env} {A₀ : Around} {base h₀ : Heap} {L : Addr} {m : Str → Option Value} {s : Shared} {Q E : Value → Shared → Prop} {news : List (Addr × Obj)} {q CD : Nat}
  (B : Below A₀ base outer h₀) (F : Fr h₀ L s.heap m) (X : (hd.heap_39 w.params).In h₀) (N : News h₀ L s.heap news) (T : TopL mean mg mb h₀) (hk : cs.kind = .function) (hdp : dp + 12 < recursionLimit) (hun : un + 96 < cLine)
  (hret : ∀ h' tk' (A AD S SD HL KL TR : Nat) ea na es ns kh kk kt u1 u2 u3 u4 v1 v2 v3, Fr h₀ L h' m → News h₀ L h' ((A, instObj 541 AD) :: (AD, dictOf ea na) :: (S, instObj 381 SD) :: (SD, dictOf es ns) :: (HL, listOf ([] : List Value).toArray kh) :: (KL, listOf ([] : List Value).toArray kk) :: (TR, listOf ([] : List Value).toArray kt) :: news) → AIs ea S CD 0 (-1) (-1) (-1) u1 u2 u3 u4 → SIs es HL KL TR 0 0 v1 v2 v3 → (∀ p ∈ news, p.1 < AD) → (AD < A ∧ A < SD ∧ SD < S ∧ S < HL ∧ HL < KL ∧ KL < TR) → Q (.ref A) { s with heap := h', toks := tk' }) :
   wpAny (model PySem.Challenge.rw_rh0105_01.row.prog w) (ktrTop dp un gd cn cs L a ccd cl outer) (call (.ref 541) [.ref q, .ref CD]) Q E s := by
  k_dflt (refine' call_cls ?k1 ?k2 ?k3 ?k4 ?k5 ?k6 ?_; (case k1 => k_asm); (case k2 => k_asm); (case k3 => k_asm); (case k4 => k_is); (case k5 => k_is); (case k6 => k_is))
  intro (x : Nat) (dx : Nat) h1 F1 N1 l1 l2
  clear N F
  k_lt2 l2
  have l9 := l1
  have offd : ∀ p ∈ news, p.1 ≠ dx := fun p hp => Nat.ne_of_lt (l1 p hp)
  k_dflt (walk_at "My in")
  k_steps
  rename News h₀ _ _ _ => N9
  k_dflt (refine' areas_end N9 ?hA ?hS ?ord ?k)
  case ord => omega
  case hA => exact ⟨by k_get, by k_get, by k_get, by k_get, by k_get, by k_get, by k_get, by k_get, by k_get, by k_get, by k_get, by k_get, by k_get, Nat.le_of_ble_eq_true rfl⟩
  case hS => exact ⟨by k_get, by k_get, by k_get, by k_get, by k_get, by k_get, by k_get, by k_get, by k_get, by k_get, by k_get, Nat.le_of_ble_eq_true rfl⟩
  case k =>
    intro S SD HL KL TR ea na es ns kh kk kt u1 u2 u3 u4 v1 v2 v3 N8 hA8 hS8 ord8
    exact hret _ _ x dx S SD HL KL TR ea na es ns kh kk kt u1 u2 u3 u4 v1 v2 v3 (by assumption) N8 hA8 hS8 l9 ord8

end
section
theorem seg_eq {ks ks' : List Value} {n m : Nat} (h : ∀ j, n ≤ j → j < n + m → ks'[j]? = ks[j]?) : (ks'.drop n).take m = (ks.drop n).take m := by
  refine List.ext_getElem? fun j => ?_
  rw [List.getElem?_take, List.getElem?_take]
  split
  · rw [List.getElem?_drop, List.getElem?_drop, h _ (by omega) (by omega)]
  · rfl
theorem seg_is {ks vs : List Value} {n : Nat} (h : ∀ j, j < vs.length → ks[n + j]? = vs[j]?) : (ks.drop n).take vs.length = vs := by
  refine List.ext_getElem? fun j => ?_
  rw [List.getElem?_take]
  split
  · rw [List.getElem?_drop, h j (by assumption)]
  · rw [List.getElem?_eq_none (by omega)]
theorem get_below {ks vals : List Value} {pl : Int} {j : Nat} (h0 : 0 ≤ pl) (h1 : pl ≤ ks.length) (hj : (j : Int) < pl) : (putSeq ks pl vals)[j]? = ks[j]? := by
  rw [get_putSeq vals ks pl h0 h1, if_neg (by omega)]
theorem get_in {ks vals : List Value} {pl : Int} {j : Nat} (h0 : 0 ≤ pl) (h1 : pl ≤ ks.length) (hj : j < vals.length) : (putSeq ks pl vals)[pl.toNat + j]? = vals[j]? := by
  rw [get_putSeq vals ks pl h0 h1, if_pos (by omega)]
  congr 1; omega
section
variable {tl tl' : List (Addr × Obj)} {kvs kvs' : List (Int × Value)} {ks ks' : List Value} {x hb pl : Int} {T9 G En kg ke : Nat} {evs gs : List Value} {e7 : List Int} {cnt : Int} {ct : Tok}
theorem KeptAt.mono (K : KeptAt tl kvs ks x hb T9 G En kg ke evs gs e7 cnt ct) (hs : ∀ p ∈ tl, p ∈ tl') : KeptAt tl' kvs ks x hb T9 G En kg ke evs gs e7 cnt ct := by
  obtain ⟨a1, a2, a3, a4, a5, a6, a7, a8, a9, a10, a11, a12, a13⟩ := K
  exact ⟨a1, hs _ a2, hs _ a3, hs _ a4, a5, a6, a7, a8, a9, a10, a11, a12, a13⟩
theorem KeptAt.keep (K : KeptAt tl kvs ks x hb T9 G En kg ke evs gs e7 cnt ct) (hx : 0 ≤ x) (hp : x + (gs.length : Int) + 8 ≤ pl) (hl : ks.length ≤ ks'.length) (hg : ∀ j : Nat, (j : Int) < pl → ks'[j]? = ks[j]?) (hkv : valueAt kvs' x = valueAt kvs x) : KeptAt tl kvs' ks' x hb T9 G En kg ke evs gs e7 cnt ct := by
  obtain ⟨a1, a2, a3, a4, a5, a6, a7, a8, a9, a10, a11, a12, a13⟩ := K
  refine ⟨hkv.trans a1, a2, a3, a4, a5, a6, a7, a8, (hg _ (by omega)).trans a9, a10, (seg_eq fun j h1 h2 => hg j (by omega)).trans a11, by omega, fun i h1 h2 => ?_⟩
  obtain ⟨t, ht⟩ := a13 i h1 h2
  exact ⟨t, (hg _ (by omega)).trans ht⟩
end
theorem kept_new {tl : List (Addr × Obj)} {kvs : List (Int × Value)} {ks evs gs : List Value} {pl e cp b o tn hn b0 : Int} {T9 G En kg ke : Nat} {t1 t2 t3 ot u1 u2 u3 u4 : Tok} (hp0 : 0 ≤ pl) (hp1 : pl ≤ ks.length)
   (kv : valueAt kvs pl = some (.ref T9)) (t9 : (T9, ({ cls := .type "tuple", data := .seq ([.ref G, .ref En] : List Value).toArray 0 } : Obj)) ∈ tl) (g : (G, listOf gs.toArray kg) ∈ tl) (en : (En, listOf evs.toArray ke) ∈ tl) (ei : IntsAre evs [e, cp, b, o, tn, hn, b0]) (g2 : gs.length ≤ 2) :
   KeptAt tl kvs (putSeq ks pl (.int (gs.length : Int) t1 :: (gs ++ [.int e u2, .int cp u1, .int b u3, .int o ot, .int tn t2, .int hn t3, .int b0 u4]))) pl hn T9 G En kg ke evs gs [e, cp, b, o, tn, hn, b0] (gs.length : Int) t1 := by
  have hL : (Value.int (gs.length : Int) t1 :: (gs ++ [Value.int e u2, .int cp u1, .int b u3, .int o ot, .int tn t2, .int hn t3, .int b0 u4])).length = gs.length + 8 := by simp
  refine ⟨kv, t9, g, en, ei, rfl, g2, rfl, ?_, rfl, ?_, ?_, ?_⟩
  · have := get_in (vals := Value.int (gs.length : Int) t1 :: (gs ++ [Value.int e u2, .int cp u1, .int b u3, .int o ot, .int tn t2, .int hn t3, .int b0 u4])) (j := 0) hp0 hp1 (by omega)
    simpa using this
  · refine seg_is (vs := Value.int (gs.length : Int) t1 :: gs) fun j hj => ?_
    rw [List.length_cons] at hj
    rw [get_in hp0 hp1 (by omega)]
    cases j with
    | zero => rfl
    | succ j => rw [List.getElem?_cons_succ, List.getElem?_cons_succ, List.getElem?_append_left (by omega)]
  · rw [length_putSeq _ _ _ hp0 hp1, hL]; omega
  · intro i h1 h2
    have e1 : (pl + (gs.length : Int) + i).toNat = pl.toNat + (gs.length + (i.toNat - 1) + 1) := by omega
    rw [e1, get_in hp0 hp1 (by omega), List.getElem?_cons_succ, List.getElem?_append_right (by omega)]
    have e2 : gs.length + (i.toNat - 1) - gs.length = i.toNat - 1 := by omega
    have e3 : (i - 1).toNat = i.toNat - 1 := by omega
    rw [e2, e3]
    obtain ⟨k, hk⟩ : ∃ k, i.toNat - 1 = k := ⟨_, rfl⟩
    rw [hk]
    have hk7 : k < 7 := by omega
    match k, hk7 with
    | 0, _ => exact ⟨_, rfl⟩
    | 1, _ => exact ⟨_, rfl⟩
    | 2, _ => exact ⟨_, rfl⟩
    | 3, _ => exact ⟨_, rfl⟩
    | 4, _ => exact ⟨_, rfl⟩
    | 5, _ => exact ⟨_, rfl⟩
    | 6, _ => exact ⟨_, rfl⟩
theorem Chain.keep {ks ks' : List Value} {pl : Int} (hg : ∀ j : Nat, (j : Int) < pl → ks'[j]? = ks[j]?) : ∀ {b : Int} {l : List Int}, Chain ks b l → (∀ x ∈ l, ∀ cnt ct, ks[x.toNat]? = some (.int cnt ct) → x + cnt + 8 ≤ pl) → Chain ks' b l
  | _, _, .nil h, _ => .nil h
  | b, _, .cons (cnt := cnt) (ct := ct) h0 h1 h2 h3 h4 h5 h6, hl => by
    have h7 := hl b (.head _) cnt ct h4
    exact .cons h0 h1 h2 h3 ((hg _ (by omega)).trans h4) ((hg _ (by omega)).trans h5) (Chain.keep hg h6 fun x hx => hl x (.tail _ hx))
theorem Chain.suffix {ks : List Value} {x : Int} : ∀ {b : Int} {l : List Int}, Chain ks b l → l.Pairwise (· > ·) → x ∈ l → Chain ks x (l.filter fun y => decide (y ≤ x))
  | _, _, .nil _, _, hx => nomatch hx
  | b, _, .cons (cs := cs) h0 h1 h2 h3 h4 h5 h6, hp, hx => by
    rcases List.mem_cons.mp hx with rfl | hx
    · have : List.filter (fun y => decide (y ≤ x)) (x :: cs) = x :: cs := List.filter_eq_self.mpr fun y hy => by
        rcases List.mem_cons.mp hy with rfl | hy
        · simp
        · have := (List.pairwise_cons.mp hp).1 y hy
          simp; omega
      rw [this]
      exact .cons h0 h1 h2 h3 h4 h5 h6
    · have h7 : b > x := (List.pairwise_cons.mp hp).1 x hx
      rw [List.filter_cons, if_neg (by simp; omega)]
      exact Chain.suffix h6 (List.pairwise_cons.mp hp).2 hx
theorem Chain.head {ks : List Value} {b : Int} {l : List Int} (h : Chain ks b l) : (b < 0 ∧ l = []) ∨ (0 ≤ b ∧ ∃ r, l = b :: r) := by
  cases h with
  | nil h => exact .inl ⟨h, rfl⟩
  | cons h0 => exact .inr ⟨h0, _, rfl⟩

end
section
theorem stored_same (kvs : List (Int × Value)) (k : Int) (v : Value) : valueAt (stored kvs k v) k = some v := by
  unfold valueAt stored
  split
  · rename_i h
    induction kvs with
    | nil => simp at h
    | cons a r ih =>
      rw [List.map_cons, List.find?_cons]
      by_cases e : a.1 = k
      · simp [e]
      · have h' : (r.any fun kv => decide (kv.1 = k)) = true := by
          rw [List.any_cons] at h
          simpa [e] using h
        simp only [e, if_false, decide_false]
        exact ih h'
  · rename_i h
    rw [List.find?_append]
    have : List.find? (fun kv => decide (kv.1 = k)) kvs = none := by
      rw [List.find?_eq_none]
      intro x hx hc
      exact h (List.any_eq_true.mpr ⟨x, hx, hc⟩)
    rw [this]; simp
theorem stored_other (kvs : List (Int × Value)) (k k' : Int) (v : Value) (hn : k' ≠ k) : valueAt (stored kvs k v) k' = valueAt kvs k' := by
  unfold valueAt stored
  split
  · congr 1
    rename_i h
    clear h
    induction kvs with
    | nil => rfl
    | cons a r ih =>
      rw [List.map_cons, List.find?_cons, List.find?_cons]
      by_cases e : a.1 = k
      · have e' : a.1 ≠ k' := fun q => hn (q.symm.trans e)
        rw [if_pos e]
        simp only [e', decide_false]
        exact ih
      · rw [if_neg e]
        cases hd : decide (a.1 = k') with
        | true => rfl
        | false => exact ih
  · rw [List.find?_append]
    have : List.find? (fun kv : Int × Value => decide (kv.1 = k')) [(k, v)] = none := by
      simp; exact fun e => hn e.symm
    rw [this, Option.or_none]
theorem stored_length (kvs : List (Int × Value)) (k : Int) (v : Value) : (stored kvs k v).length ≤ kvs.length + 1 := by
  unfold stored
  split <;> simp
structure St where
  (ea es : List DictEntry) (na ns kh kk kt : Nat) (hs ks ts : List Value) (cp e b b0 hb bb : Int) (u1 u2 u3 u4 v1 v2 v3 : Tok)
  (ps : List Value) (pn : List Int) (kp : Nat) (ok : Obj) (kvs : List (Int × Value)) (ls : List Value) (ln : List Int) (kl : Nat)
  (x z : Int) (tx tz : Tok) (ku : Nat) (cnt : Int) (ct tb tt : Tok) (xs : List (Addr × Obj))
def KeptX (xs : List (Addr × Obj)) (kvs : List (Int × Value)) (ks : List Value) (x hb lim : Int) : Prop :=
  ∃ T9 G En kg ke evs gs e7 cnt ct, KeptAt xs kvs ks x hb T9 G En kg ke evs gs e7 cnt ct ∧ x + (gs.length : Int) ≤ lim
structure Inv (w : World) (S CD HL KL TR : Nat) (i : Nat) (c : St) : Prop where
  hA : AIs c.ea S CD c.cp c.e c.b c.b0 c.u1 c.u2 c.u3 c.u4
  hS : SIs c.es HL KL TR c.hb c.bb c.v1 c.v2 c.v3
  cp12 : c.cp = 1 ∨ c.cp = 2
  lh : c.hs.length ≤ i
  lk : c.ks.length ≤ 10 * i
  lt : c.ts.length ≤ i
  ll : c.ln.length ≤ i
  lp : c.pn.length ≤ i
  lv : c.kvs.length ≤ i
  e1 : -1 ≤ c.e
  e2 : 0 ≤ c.e → c.e + 4 ≤ c.ks.length
  b1 : -1 ≤ c.b
  ct0 : 0 ≤ c.b → c.ks[c.b.toNat]? = some (.int c.cnt c.ct)
  ct1 : 0 ≤ c.b → 0 ≤ c.cnt ∧ c.cnt ≤ 2
  ct2 : 0 ≤ c.b → c.b + c.cnt + 8 ≤ c.ks.length
  ct3 : 0 ≤ c.b → c.b < c.e → c.b + c.cnt + 8 ≤ c.e
  bn : c.b < 0 → c.hb = 0 ∧ c.bb = 0
  bp : 0 ≤ c.b → c.bb = c.b
  hb0 : 0 ≤ c.hb ∧ c.hb ≤ c.hs.length
  pi : IntsAre c.ps c.pn
  li : IntsAre c.ls c.ln
  lr : ∀ a ∈ c.ln, 0 ≤ a ∧ a < c.hs.length
  ch : Chain c.ks c.b c.pn.reverse
  up : c.pn.Pairwise (· < ·)
  kd : c.ok.IsDictOf (PySem.intKind PySem.Challenge.rw_rh0105_01.row.prog w) c.kvs
  ke : ∀ x ∈ c.pn, 0 ≤ x ∧ x ≤ c.b ∧ ∃ hb', KeptX c.xs c.kvs c.ks x hb' (c.b + c.cnt) ∧ (x = c.b → hb' = c.hb)
  ur : 0 ≤ c.x ∧ 0 ≤ c.z ∧ c.z ≤ 100
theorem KeptX.keep {xs xs' : List (Addr × Obj)} {kvs kvs' : List (Int × Value)} {ks ks' : List Value} {x hb lim lim' pl : Int} (K : KeptX xs kvs ks x hb lim) (hx : 0 ≤ x) (hp : lim + 8 ≤ pl) (hl : ks.length ≤ ks'.length) (hg : ∀ j : Nat, (j : Int) < pl → ks'[j]? = ks[j]?) (hkv : valueAt kvs' x = valueAt kvs x) (hs : ∀ p ∈ xs, p ∈ xs') (hm : lim ≤ lim') : KeptX xs' kvs' ks' x hb lim' := by
  obtain ⟨T9, G, En, kg, ke, evs, gs, e7, cnt, ct, k, hle⟩ := K
  exact ⟨T9, G, En, kg, ke, evs, gs, e7, cnt, ct, (k.keep hx (by omega) hl hg hkv).mono hs, by omega⟩
theorem KeptX.mono {xs xs' : List (Addr × Obj)} {kvs : List (Int × Value)} {ks : List Value} {x hb lim : Int} (K : KeptX xs kvs ks x hb lim) (hs : ∀ p ∈ xs, p ∈ xs') : KeptX xs' kvs ks x hb lim := by
  obtain ⟨T9, G, En, kg, ke, evs, gs, e7, cnt, ct, k, hle⟩ := K
  exact ⟨T9, G, En, kg, ke, evs, gs, e7, cnt, ct, k.mono hs, hle⟩
section
variable {w : World} {S CD HL KL TR i : Nat} {c : St}
theorem Inv.top (I : Inv w S CD HL KL TR i c) : 0 ≤ topV c.e c.b c.cp c.cnt ∧ topV c.e c.b c.cp c.cnt ≤ c.ks.length ∧ (0 ≤ c.b → c.b + c.cnt + 8 ≤ topV c.e c.b c.cp c.cnt) := by
  have h1 := I.e1
  have h2 := I.e2
  have h3 := I.b1
  have h4 := I.ct2
  have h5 := I.ct3
  have h6 := I.ct1
  have h7 := I.cp12
  unfold topV
  split
  · omega
  · split <;> omega
theorem Inv.under (I : Inv w S CD HL KL TR i c) (vals : List Value) (xs' : List (Addr × Obj)) (kvs' : List (Int × Value)) (hs : ∀ p ∈ c.xs, p ∈ xs') (hkv : ∀ x ∈ c.pn, valueAt kvs' x = valueAt c.kvs x) :
    Chain (putSeq c.ks (topV c.e c.b c.cp c.cnt) vals) c.b c.pn.reverse ∧ (∀ x ∈ c.pn, 0 ≤ x ∧ x ≤ c.b ∧ ∃ hb', KeptX xs' kvs' (putSeq c.ks (topV c.e c.b c.cp c.cnt) vals) x hb' (c.b + c.cnt) ∧ (x = c.b → hb' = c.hb)) := by
  obtain ⟨t0, t1, t2⟩ := I.top
  have hg : ∀ j : Nat, (j : Int) < topV c.e c.b c.cp c.cnt → (putSeq c.ks (topV c.e c.b c.cp c.cnt) vals)[j]? = c.ks[j]? := fun j hj => get_below t0 t1 hj
  have hl : c.ks.length ≤ (putSeq c.ks (topV c.e c.b c.cp c.cnt) vals).length := by rw [length_putSeq _ _ _ t0 t1]; omega
  refine ⟨I.ch.keep hg ?_, ?_⟩
  · intro x hx cnt ct hc
    have hx := List.mem_reverse.mp hx
    obtain ⟨h0, h1, hb', ⟨T9, G, En, kg, ke, evs, gs, e7, cnt', ct', k, hle⟩, _⟩ := I.ke x hx
    have h2 := k.c0
    rw [hc] at h2
    have h3 : cnt = cnt' := by injection h2 with h2; injection h2
    have h4 := k.cg
    have := t2 (by omega)
    omega
  · intro x hx
    obtain ⟨h0, h1, hb', k, he⟩ := I.ke x hx
    have := t2 (by omega)
    exact ⟨h0, h1, hb', k.keep h0 this hl hg (hkv x hx) hs (Int.le_refl _), he⟩
theorem Inv.var (I : Inv w S CD HL KL TR i c) {v : Value} {kh' kl' : Nat} {t : Tok} {x z : Int} {tx tz : Tok} {ku : Nat} {own : List (Addr × Obj)} (hu : 0 ≤ x ∧ 0 ≤ z ∧ z ≤ 100) :
    Inv w S CD HL KL TR (i + 1) { c with hs := c.hs ++ [v], kh := kh', ls := c.ls ++ [.int (c.hs.length : Int) t], ln := c.ln ++ [(c.hs.length : Int)], kl := kl', x := x, z := z, tx := tx, tz := tz, ku := ku } := by
  have h1 := I.lh; have h2 := I.lk; have h3 := I.lt; have h4 := I.ll; have h5 := I.lp; have h6 := I.hb0; have h7 := I.lv
  refine ⟨I.hA, I.hS, I.cp12, ?_, ?_, ?_, ?_, ?_, ?_, I.e1, I.e2, I.b1, I.ct0, I.ct1, I.ct2, I.ct3, I.bn, I.bp, ?_, I.pi, ?_, ?_, I.ch, I.up, I.kd, I.ke, hu⟩
  all_goals dsimp only
  · simp; omega
  · omega
  · omega
  · simp; omega
  · omega
  · omega
  · simp; omega
  · exact I.li.append (.cons _ _ .nil)
  · intro a ha
    rw [List.length_append, List.length_singleton]
    rcases List.mem_append.mp ha with ha | ha
    · have := I.lr a ha; omega
    · rw [List.mem_singleton.mp ha]; omega
theorem Inv.bound (I : Inv w S CD HL KL TR i c) {v : Value} {r : List Value} {rn : List Int} {a : Int} {ta : Tok} {kh' kl' kt' : Nat} {ts' : List Value} {x z : Int} {tx tz : Tok} {ku : Nat} {hs' : List Value} (hu : 0 ≤ x ∧ 0 ≤ z ∧ z ≤ 100)
    (hl : c.ls = .int a ta :: r) (hn : c.ln = a :: rn) (hh : hs'.length = c.hs.length) (ht : ts'.length ≤ c.ts.length + 1) {tt : Tok} :
    Inv w S CD HL KL TR (i + 1) { c with hs := hs', kh := kh', ls := r, ln := rn, kl := kl', ts := ts', kt := kt', tt := tt, x := x, z := z, tx := tx, tz := tz, ku := ku } := by
  have h1 := I.lh; have h2 := I.lk; have h3 := I.lt; have h4 := I.ll; have h5 := I.lp; have h6 := I.hb0; have h7 := I.lv
  have hli := I.li
  rw [hl, hn] at hli
  rw [hn] at h4
  rw [List.length_cons] at h4
  refine ⟨I.hA, I.hS, I.cp12, ?_, ?_, ?_, ?_, ?_, ?_, I.e1, I.e2, I.b1, I.ct0, I.ct1, I.ct2, I.ct3, I.bn, I.bp, ?_, I.pi, ?_, ?_, I.ch, I.up, I.kd, I.ke, hu⟩
  all_goals dsimp only
  · omega
  · omega
  · omega
  · omega
  · omega
  · omega
  · omega
  · cases hli with | cons _ _ h => exact h
  · intro b hb
    have := I.lr b (hn ▸ .tail _ hb)
    omega
theorem Inv.barrier (I : Inv w S CD HL KL TR i c) {ea' : List DictEntry} {na' : Nat} {u : Tok} {x z : Int} {tx tz : Tok} {ku : Nat} (hu : 0 ≤ x ∧ 0 ≤ z ∧ z ≤ 100) {b0' : Int} (hA : AIs ea' S CD c.cp c.e c.b b0' c.u1 c.u2 c.u3 u) :
    Inv w S CD HL KL TR (i + 1) { c with ea := ea', na := na', b0 := b0', u4 := u, x := x, z := z, tx := tx, tz := tz, ku := ku } := by
  have h1 := I.lh; have h2 := I.lk; have h3 := I.lt; have h4 := I.ll; have h5 := I.lp; have h6 := I.hb0; have h7 := I.lv
  refine ⟨hA, I.hS, I.cp12, ?_, ?_, ?_, ?_, ?_, ?_, I.e1, I.e2, I.b1, I.ct0, I.ct1, I.ct2, I.ct3, I.bn, I.bp, I.hb0, I.pi, I.li, I.lr, I.ch, I.up, I.kd, I.ke, hu⟩
  all_goals dsimp only
  all_goals omega
theorem Inv.urn (I : Inv w S CD HL KL TR i c) {x z : Int} {tx tz : Tok} {ku : Nat} (hu : 0 ≤ x ∧ 0 ≤ z ∧ z ≤ 100) : Inv w S CD HL KL TR i { c with x := x, z := z, tx := tx, tz := tz, ku := ku } := by
  obtain ⟨a1, a2, a3, a4, a5, a6, a7, a8, a9, a10, a11, a12, a13, a14, a15, a16, a17, a18, a19, a20, a21, a22, a23, a24, a25, a26, _⟩ := I
  exact ⟨a1, a2, a3, a4, a5, a6, a7, a8, a9, a10, a11, a12, a13, a14, a15, a16, a17, a18, a19, a20, a21, a22, a23, a24, a25, a26, hu⟩
theorem Inv.setcp (I : Inv w S CD HL KL TR i c) {ea' : List DictEntry} {na' : Nat} {u : Tok} {cp' : Int} (h : cp' = 1 ∨ cp' = 2) (hA : AIs ea' S CD cp' c.e c.b c.b0 u c.u2 c.u3 c.u4) : Inv w S CD HL KL TR i { c with ea := ea', na := na', cp := cp', u1 := u } := by
  obtain ⟨a1, a2, a3, a4, a5, a6, a7, a8, a9, a10, a11, a12, a13, a14, a15, a16, a17, a18, a19, a20, a21, a22, a23, a24, a25, a26, a27⟩ := I
  exact ⟨hA, a2, h, a4, a5, a6, a7, a8, a9, a10, a11, a12, a13, a14, a15, a16, a17, a18, a19, a20, a21, a22, a23, a24, a25, a26, a27⟩
theorem Inv.env (I : Inv w S CD HL KL TR i c) {ea' : List DictEntry} {na' kk' : Nat} {u : Tok} {vals : List Value} (hv : vals.length = 4) (hA : AIs ea' S CD c.cp (topV c.e c.b c.cp c.cnt) c.b c.b0 c.u1 u c.u3 c.u4) :
    Inv w S CD HL KL TR (i + 1) { c with ea := ea', na := na', e := topV c.e c.b c.cp c.cnt, u2 := u, ks := putSeq c.ks (topV c.e c.b c.cp c.cnt) vals, kk := kk' } := by
  obtain ⟨t0, t1, t2⟩ := I.top
  obtain ⟨q1, q2⟩ := I.under vals c.xs c.kvs (fun _ h => h) (fun _ _ => rfl)
  have hL := length_putSeq vals _ _ t0 t1
  have h1 := I.lh; have h2 := I.lk; have h3 := I.lt; have h4 := I.ll; have h5 := I.lp; have h6 := I.hb0; have h7 := I.lv
  rw [hv] at hL
  refine ⟨hA, I.hS, I.cp12, ?_, ?_, ?_, ?_, ?_, ?_, ?_, ?_, I.b1, ?_, I.ct1, ?_, ?_, I.bn, I.bp, I.hb0, I.pi, I.li, I.lr, q1, I.up, I.kd, q2, I.ur⟩
  all_goals dsimp only
  · omega
  · rw [hL]; omega
  · omega
  · omega
  · omega
  · omega
  · omega
  · intro _; rw [hL]; omega
  · intro hb
    have h8 := t2 hb
    have h9 := I.ct1 hb
    rw [get_below t0 t1 (by omega)]
    exact I.ct0 hb
  · intro hb
    have := I.ct2 hb
    rw [hL]; omega
  · intro hb _
    exact t2 hb
theorem Inv.push (I : Inv w S CD HL KL TR i c) {ea' es' : List DictEntry} {na' ns' kk' kp' kg ke T9 G En : Nat} {o : Int} {ot t1 t2 t3 tb' u3' v1' v2' u9 : Tok} {gs evs : List Value} {ok' : Obj} {xs' : List (Addr × Obj)}
    (hA : AIs ea' S CD c.cp c.e (topV c.e c.b c.cp c.cnt) c.b0 c.u1 c.u2 u3' c.u4) (hS : SIs es' HL KL TR (c.hs.length : Int) (topV c.e c.b c.cp c.cnt) v1' v2' c.v3)
    (hi : i ≤ 9) (hg2 : gs.length ≤ 2) (hxs : ∀ p ∈ c.xs, p ∈ xs') (t9 : (T9, ({ cls := .type "tuple", data := .seq ([.ref G, .ref En] : List Value).toArray 0 } : Obj)) ∈ xs') (g : (G, listOf gs.toArray kg) ∈ xs') (en : (En, listOf evs.toArray ke) ∈ xs')
    (ei : IntsAre evs [c.e, c.cp, c.b, o, (c.ts.length : Int), (c.hs.length : Int), c.b0]) (hd : ok'.IsDictOf (PySem.intKind PySem.Challenge.rw_rh0105_01.row.prog w) (stored c.kvs (topV c.e c.b c.cp c.cnt) (.ref T9))) :
    Inv w S CD HL KL TR (i + 1) { c with ea := ea', na := na', es := es', ns := ns', b := topV c.e c.b c.cp c.cnt, hb := (c.hs.length : Int), bb := topV c.e c.b c.cp c.cnt, u3 := u3', v1 := v1', v2 := v2', cnt := (gs.length : Int), ct := t1, ks := putSeq c.ks (topV c.e c.b c.cp c.cnt) (.int (gs.length : Int) t1 :: (gs ++ [.int c.e c.u2, .int c.cp c.u1, .int c.b c.u3, .int o ot, .int (c.ts.length : Int) t2, .int (c.hs.length : Int) t3, .int c.b0 c.u4])), kk := kk', ps := c.ps ++ [.int (topV c.e c.b c.cp c.cnt) u9], pn := c.pn ++ [topV c.e c.b c.cp c.cnt], kp := kp', ok := ok', kvs := stored c.kvs (topV c.e c.b c.cp c.cnt) (.ref T9), tb := tb', xs := xs' } := by
  obtain ⟨t0, t1', t2'⟩ := I.top
  have hle : ∀ x ∈ c.pn, x < topV c.e c.b c.cp c.cnt := fun x hx => by
    have h := I.ke x hx
    have h8 := t2' (by omega)
    have h9 := I.ct1 (by omega)
    omega
  obtain ⟨q1, q2⟩ := I.under (.int (gs.length : Int) t1 :: (gs ++ [.int c.e c.u2, .int c.cp c.u1, .int c.b c.u3, .int o ot, .int (c.ts.length : Int) t2, .int (c.hs.length : Int) t3, .int c.b0 c.u4])) xs' (stored c.kvs (topV c.e c.b c.cp c.cnt) (.ref T9)) hxs (fun x hx => stored_other _ _ _ _ (by have := hle x hx; omega))
  have hL := length_putSeq (.int (gs.length : Int) t1 :: (gs ++ [.int c.e c.u2, .int c.cp c.u1, .int c.b c.u3, .int o ot, .int (c.ts.length : Int) t2, .int (c.hs.length : Int) t3, .int c.b0 c.u4])) _ _ t0 t1'
  have h1 := I.lh; have h2 := I.lk; have h3 := I.lt; have h4 := I.ll; have h5 := I.lp; have h6 := I.hb0; have h7 := I.lv; have h8 := I.e1; have h9 := I.e2; have h10 := I.b1
  rw [show (Value.int (gs.length : Int) t1 :: (gs ++ [Value.int c.e c.u2, .int c.cp c.u1, .int c.b c.u3, .int o ot, .int (c.ts.length : Int) t2, .int (c.hs.length : Int) t3, .int c.b0 c.u4])).length = gs.length + 8 by simp] at hL
  have K := kept_new (tl := xs') (ks := c.ks) (kvs := stored c.kvs (topV c.e c.b c.cp c.cnt) (.ref T9)) (t1 := t1) (t2 := t2) (t3 := t3) (ot := ot) (u1 := c.u1) (u2 := c.u2) (u3 := c.u3) (u4 := c.u4) t0 t1' (stored_same _ _ _) t9 g en ei hg2
  have hsl := stored_length c.kvs (topV c.e c.b c.cp c.cnt) (.ref T9)
  refine ⟨hA, hS, I.cp12, ?_, ?_, ?_, ?_, ?_, ?_, ?_, ?_, ?_, ?_, ?_, ?_, ?_, ?_, ?_, ?_, ?_, I.li, I.lr, ?_, ?_, hd, ?_, I.ur⟩
  all_goals dsimp only
  · omega
  · rw [hL]; omega
  · omega
  · omega
  · simp; omega
  · omega
  · omega
  · intro _; rw [hL]; omega
  · omega
  · intro _; exact K.c0
  · intro _; omega
  · intro _; rw [hL]; omega
  · intro _ h; exfalso; have h13 := I.ct1; have h14 := I.cp12; revert h; unfold topV; (repeat' split) <;> omega
  · intro h; omega
  · intro _; rfl
  · omega
  · exact I.pi.append (.cons _ _ .nil)
  · rw [List.reverse_append]
    obtain ⟨tt, htt⟩ := K.pt 3 (by omega) (by omega)
    exact .cons t0 (by omega) (by omega) (by omega) K.c0 htt q1
  · rw [List.pairwise_append]
    exact ⟨I.up, List.pairwise_singleton _ _, fun a ha b hb => by rw [List.mem_singleton.mp hb]; exact hle a ha⟩
  · intro x hx
    rcases List.mem_append.mp hx with hx | hx
    · obtain ⟨p1, p2, hb', p3, p4⟩ := q2 x hx
      have h11 := hle x hx
      have h12 := t2' (by omega)
      refine ⟨p1, by omega, hb', ?_, fun e => by omega⟩
      obtain ⟨T9', G', En', kg', ke', evs', gs', e7', cnt', ct', k, hle'⟩ := p3
      exact ⟨T9', G', En', kg', ke', evs', gs', e7', cnt', ct', k, by omega⟩
    · rw [List.mem_singleton.mp hx]
      exact ⟨t0, Int.le_refl _, _, ⟨T9, G, En, kg, ke, evs, gs, _, _, _, K, Int.le_refl _⟩, fun _ => rfl⟩
end

end
section
section
variable {prog : Program} {w : World} {A : Around} {h₀ : Heap} {L : Addr} {m : Str → Option Value} {env : Env} {elt : Expr} {x : Str} {scope : Scope} {cl : List (Str × Addr)} {s : Shared} {S : List (Addr × Obj) → Prop} {Fin : List Value → List (Addr × Obj) → Prop}
theorem my_comp {σ : Type} {n : Nat} {a : Int} (Led : σ → List (Addr × Obj)) (P : Nat → List Value → σ → Prop) (c₀ : σ) (h0 : P 0 [] c₀)
    (turn : ∀ i t ys c I oI C oC D m₂ h tk (E' : Value → Shared → Prop), i < n → P i ys c → LCg.NsObj oC m₂ → m₂ x = some (.int (a + (i : Int)) t) → Fr h₀ L h m → News h₀ L h ((I, oI) :: (C, oC) :: (D, LCg.lst ys) :: Led c) → LCg.Off3 I C D (Led c) → ((@Ne Nat I C) ∧ (@Ne Nat I D) ∧ (@Ne Nat C D)) →
      wpAny (model prog w) A (eval elt (compEnvC scope cl C env)) (LCg.CompEnd h₀ L m { s with heap := h, toks := tk } I oI C oC D (LCg.lst ys) S (fun y news' => ∃ c', news' = Led c' ∧ P (i + 1) (ys ++ [y]) c')) E' { s with heap := h, toks := tk })
    (fin : ∀ ys c, P n ys c → Fin ys (Led c)) : LCg.CompRest prog w A h₀ L m env elt x scope cl s S (fun i v => ∃ t, v = .int (a + (i : Int)) t) Fin n 0 [] (Led c₀) := by
  have key : ∀ (j i : Nat) (ys : List Value) (c : σ), i + j = n → P i ys c → LCg.CompRest prog w A h₀ L m env elt x scope cl s S (fun i v => ∃ t, v = .int (a + (i : Int)) t) Fin j i ys (Led c) := by
    intro j
    induction j with
    | zero =>
      intro i ys c hi hp
      obtain rfl : i = n := by omega
      exact LCg.CompRest.zero (fin ys c hp)
    | succ j ih =>
      intro i ys c hi hp
      refine LCg.CompRest.succ fun v I oI C oC D m₂ h tk E' hv hC hx F N off ne => ?_
      obtain ⟨t, rfl⟩ := hv
      refine wpAny_mono (turn i t ys c I oI C oC D m₂ h tk E' (by omega) hp hC hx F N off ne) (fun y s₂ hq => ?_) fun _ _ e => e
      obtain ⟨h', tk', nw, e, F', N', off', hS, c', rfl, hp'⟩ := hq
      exact ⟨h', tk', _, e, F', N', off', hS, ih (i + 1) _ c' (by omega) hp'⟩
  exact key n 0 [] c₀ (by omega) h0
theorem my_src {Fin' : Shared → List Value → List (Addr × Obj) → Prop} {r : Addr} {b : Int} {t u v : Tok} {news : List (Addr × Obj)} {s₁ : Shared} (hh : A.handled = none) (F : Fr h₀ L s₁.heap m) (N : News h₀ L s₁.heap news) (hr : IsRange s₁.heap r 0 b 1 t u v) (h0 : 0 ≤ b) (h1 : b ≤ 100)
    (h : ∀ n : Nat, (n : Int) = b → ∀ g, LCg.CompRest prog w A h₀ L m env elt x scope cl { s₁ with heap := g } (fun _ => True) (fun i v => ∃ t, v = .int ((0 : Int) + (i : Int)) t) (Fin' { s₁ with heap := g }) n 0 [] news) :
    LCg.CompSrc prog w A h₀ L m env elt x scope cl Fin' (.ref r) s₁ := by
  obtain ⟨n, rfl⟩ : ∃ n : Nat, b = n := ⟨b.toNat, by omega⟩
  have hsz : Builtin.Range.rangeSize 0 (n : Int) 1 = (n : Int) := by
    have := rangeSize_nat 0 n
    simpa using this
  exact LCg.CompSrc.range (n := n) hh F N hr (small_one (by decide) (by decide) (by omega) (by omega)) hsz (by rw [sizeLine_eq]; omega) (h n rfl)
theorem my_compU {n : Nat} {a : Int} {UR UL : Nat} {x0 z0 : Int} {tx tz : Tok} {ku : Nat} {news : List (Addr × Obj)} {nf : Obj → List (Addr × Obj)} (U : UpdF UR (listOf ([.int x0 tx, .ref UL, .int z0 tz] : List Value).toArray ku) news nf) (hu : 0 ≤ x0 ∧ 0 ≤ z0 ∧ z0 ≤ 100)
    (turn : ∀ i t ys (x1 z1 : Int) (tx tz : Tok) (ku : Nat) (I : Addr) oI (C : Addr) oC (D : Addr) m₂ h tk (E' : Value → Shared → Prop), i < n → ys.length = i → 0 ≤ x1 → 0 ≤ z1 → z1 ≤ 100 → LCg.NsObj oC m₂ → m₂ x = some (.int (a + (i : Int)) t) → Fr h₀ L h m →
      News h₀ L h ((I, oI) :: (C, oC) :: (D, LCg.lst ys) :: nf (listOf ([.int x1 tx, .ref UL, .int z1 tz] : List Value).toArray ku)) → ((@Ne Nat I C) ∧ (@Ne Nat I D) ∧ (@Ne Nat C D)) → ((@Ne Nat UR I) ∧ (@Ne Nat UR C) ∧ (@Ne Nat UR D)) →
      wpAny (model prog w) A (eval elt (compEnvC scope cl C env)) (fun y s₂ => ∃ h' tk' x2 z2 tx' tz' ku' q, y = .ref q ∧ s₂ = { s with heap := h', toks := tk' } ∧ 0 ≤ x2 ∧ 0 ≤ z2 ∧ z2 ≤ 100 ∧ Fr h₀ L h' m ∧ News h₀ L h' ((I, oI) :: (C, oC) :: (D, LCg.lst ys) :: nf (listOf ([.int x2 tx', .ref UL, .int z2 tz'] : List Value).toArray ku'))) E' { s with heap := h, toks := tk })
    (fin : ∀ ys (x1 z1 : Int) (tx tz : Tok) (ku : Nat), ys.length = n → 0 ≤ x1 → 0 ≤ z1 → z1 ≤ 100 → Fin ys (nf (listOf ([.int x1 tx, .ref UL, .int z1 tz] : List Value).toArray ku))) :
    LCg.CompRest prog w A h₀ L m env elt x scope cl s (fun _ => True) (fun i v => ∃ t, v = .int (a + (i : Int)) t) Fin n 0 [] news := by
  obtain ⟨pre, post, e1, e2, _, _⟩ := U.split
  have e3 : news = nf (listOf ([.int x0 tx, .ref UL, .int z0 tz] : List Value).toArray ku) := e1.trans (e2 _).symm
  rw [e3]
  refine my_comp (σ := Int × Int × Tok × Tok × Nat) (fun d => nf (listOf ([.int d.1 d.2.2.1, .ref UL, .int d.2.1 d.2.2.2.1] : List Value).toArray d.2.2.2.2)) (fun i ys d => ys.length = i ∧ 0 ≤ d.1 ∧ 0 ≤ d.2.1 ∧ d.2.1 ≤ 100) (x0, z0, tx, tz, ku) ⟨rfl, hu.1, hu.2.1, hu.2.2⟩ ?_ ?_
  · rintro i t ys ⟨x1, z1, tx, tz, ku⟩ I oI C oC D m₂ h tk E' hi ⟨hl, h1, h2, h3⟩ hC hx F N off ne
    dsimp only at hl h1 h2 h3 N off ⊢
    have hUR := LCg.Off3.mem off (UR, listOf ([.int x1 tx, .ref UL, .int z1 tz] : List Value).toArray ku) (by rw [e2]; exact List.mem_append_right _ (.head _))
    refine wpAny_mono (turn i t ys x1 z1 tx tz ku I oI C oC D m₂ h tk E' hi hl h1 h2 h3 hC hx F N ne hUR) (fun y s₂ hq => ?_) fun _ _ e => e
    obtain ⟨h', tk', x2, z2, tx', tz', ku', q, rfl, rfl, g1, g2, g3, F', N'⟩ := hq
    refine LCg.CompEnd.intro F' N' _ (fun p hp => hp) (LCg.Off3.of fun p hp => ?_) trivial ⟨(x2, z2, tx', tz', ku'), rfl, by rw [List.length_append, hl]; rfl, g1, g2, g3⟩
    rw [e2] at hp
    rcases List.mem_append.mp hp with hp | hp
    · exact LCg.Off3.mem off p (by rw [e2]; exact List.mem_append_left _ hp)
    · rcases List.mem_cons.mp hp with rfl | hp
      · exact hUR
      · exact LCg.Off3.mem off p (by rw [e2]; exact List.mem_append_right _ (.tail _ hp))
  · rintro ys ⟨x1, z1, tx, tz, ku⟩ ⟨hl, h1, h2, h3⟩
    exact fin ys x1 z1 tx tz ku hl h1 h2 h3
end

end
section
structure Offs (AD SD HL KL TR PL KP LL UR : Nat) (xs : List (Addr × Obj)) : Prop where
  ad : ∀ p ∈ xs, p.1 ≠ AD
  sd : ∀ p ∈ xs, p.1 ≠ SD
  hl : ∀ p ∈ xs, p.1 ≠ HL
  kl : ∀ p ∈ xs, p.1 ≠ KL
  tr : ∀ p ∈ xs, p.1 ≠ TR
  pl : ∀ p ∈ xs, p.1 ≠ PL
  kp : ∀ p ∈ xs, p.1 ≠ KP
  ll : ∀ p ∈ xs, p.1 ≠ LL
  ur : ∀ p ∈ xs, p.1 ≠ UR
theorem Offs.app {AD SD HL KL TR PL KP LL UR : Nat} {xs ys : List (Addr × Obj)} (h : Offs AD SD HL KL TR PL KP LL UR xs) (k : Offs AD SD HL KL TR PL KP LL UR ys) : Offs AD SD HL KL TR PL KP LL UR (xs ++ ys) :=
  ⟨fun p hp => (List.mem_append.mp hp).elim (h.ad p) (k.ad p), fun p hp => (List.mem_append.mp hp).elim (h.sd p) (k.sd p), fun p hp => (List.mem_append.mp hp).elim (h.hl p) (k.hl p), fun p hp => (List.mem_append.mp hp).elim (h.kl p) (k.kl p), fun p hp => (List.mem_append.mp hp).elim (h.tr p) (k.tr p), fun p hp => (List.mem_append.mp hp).elim (h.pl p) (k.pl p), fun p hp => (List.mem_append.mp hp).elim (h.kp p) (k.kp p), fun p hp => (List.mem_append.mp hp).elim (h.ll p) (k.ll p), fun p hp => (List.mem_append.mp hp).elim (h.ur p) (k.ur p)⟩
section
variable {A AD S SD HL KL TR CD C1 C2 PL KP LL UR UL CE : Nat} {c1a c1b c2a c2b : Value} {c1t c2t : Tok} {kc ku0 : Nat} {us : List Value} {oc : Obj}
def Led (A AD S SD HL KL TR CD C1 C2 PL KP LL UR UL CE : Nat) (c1a c1b c2a c2b : Value) (c1t c2t : Tok) (kc ku0 : Nat) (us : List Value) (oc : Obj) (c : St) : List (Addr × Obj) :=
  ((A, instObj 541 AD) :: (AD, dictOf c.ea c.na) :: (S, instObj 381 SD) :: (SD, dictOf c.es c.ns) :: (HL, listOf (c.hs).toArray c.kh) :: (KL, listOf (c.ks).toArray c.kk) :: (TR, listOf (c.ts).toArray c.kt) :: (CD, listOf ([.ref C1, .ref C2] : List Value).toArray kc) :: (C1, codeTup c1a c1b 2 c1t) :: (C2, codeTup c2a c2b 1 c2t) :: ((PL, listOf c.ps.toArray c.kp) :: (KP, c.ok) :: (LL, listOf c.ls.toArray c.kl) :: (UR, listOf ([.int c.x c.tx, .ref UL, .int c.z c.tz] : List Value).toArray c.ku) :: (UL, listOf us.toArray ku0) :: (CE, oc) :: c.xs))
theorem led_own {c : St} {own : List (Addr × Obj)} : Led A AD S SD HL KL TR CD C1 C2 PL KP LL UR UL CE c1a c1b c2a c2b c1t c2t kc ku0 us oc c ++ own = ((A, instObj 541 AD) :: (AD, dictOf c.ea c.na) :: (S, instObj 381 SD) :: (SD, dictOf c.es c.ns) :: (HL, listOf (c.hs).toArray c.kh) :: (KL, listOf (c.ks).toArray c.kk) :: (TR, listOf (c.ts).toArray c.kt) :: (CD, listOf ([.ref C1, .ref C2] : List Value).toArray kc) :: (C1, codeTup c1a c1b 2 c1t) :: (C2, codeTup c2a c2b 1 c2t) :: ((PL, listOf c.ps.toArray c.kp) :: (KP, c.ok) :: (LL, listOf c.ls.toArray c.kl) :: (UR, listOf ([.int c.x c.tx, .ref UL, .int c.z c.tz] : List Value).toArray c.ku) :: (UL, listOf us.toArray ku0) :: (CE, oc) :: (c.xs ++ own))) := rfl
theorem own_offs {c : St} {own : List (Addr × Obj)} (h : OwnOff own ((Led A AD S SD HL KL TR CD C1 C2 PL KP LL UR UL CE c1a c1b c2a c2b c1t c2t kc ku0 us oc c).map (·.1))) : Offs AD SD HL KL TR PL KP LL UR own := by
  unfold Led at h
  simp only [List.map_cons] at h
  refine ⟨fun p hp => h p hp _ ?_, fun p hp => h p hp _ ?_, fun p hp => h p hp _ ?_, fun p hp => h p hp _ ?_, fun p hp => h p hp _ ?_, fun p hp => h p hp _ ?_, fun p hp => h p hp _ ?_, fun p hp => h p hp _ ?_, fun p hp => h p hp _ ?_⟩
  all_goals simp only [List.mem_cons, true_or, or_true]
theorem turn_end {x : Str} {stored : List Str} {m₀ : Str → Option Value} {w : World} {i : Nat} {c c' : St} {h₀ h' : Heap} {L : Addr} {m' : Str → Option Value} {own rest : List (Addr × Obj)} {s₁ : Shared} {tk : Nat}
    (F : Fr h₀ L h' m') (N : News h₀ L h' ((A, instObj 541 AD) :: (AD, dictOf c'.ea c'.na) :: (S, instObj 381 SD) :: (SD, dictOf c'.es c'.ns) :: (HL, listOf (c'.hs).toArray c'.kh) :: (KL, listOf (c'.ks).toArray c'.kk) :: (TR, listOf (c'.ts).toArray c'.kt) :: (CD, listOf ([.ref C1, .ref C2] : List Value).toArray kc) :: (C1, codeTup c1a c1b 2 c1t) :: (C2, codeTup c2a c2b 1 c2t) :: ((PL, listOf c'.ps.toArray c'.kp) :: (KP, c'.ok) :: (LL, listOf c'.ls.toArray c'.kl) :: (UR, listOf ([.int c'.x c'.tx, .ref UL, .int c'.z c'.tz] : List Value).toArray c'.ku) :: (UL, listOf us.toArray ku0) :: (CE, oc) :: rest))) (hoff : OwnOff own ((Led A AD S SD HL KL TR CD C1 C2 PL KP LL UR UL CE c1a c1b c2a c2b c1t c2t kc ku0 us oc c).map (·.1)))
    (hx : ∀ p ∈ c'.xs, p ∈ rest) (ho : ∀ p ∈ own, p ∈ rest) (hn : ∀ p ∈ c'.xs, p ∈ c.xs ∨ ∀ q ∈ own, q.1 ≠ p.1) (I : Inv w S CD HL KL TR (i + 1) c') (of : Offs AD SD HL KL TR PL KP LL UR c'.xs)
    (hk : ∀ p ∈ [(Str.ofString "bound", Value.int c'.hb c'.tb), (Str.ofString "trailed", Value.int (c'.ts.length : Int) c'.tt)], m' p.1 = some p.2)
    (hr : ∀ z, z ≠ x → (∀ p ∈ [(Str.ofString "bound", Value.int c'.hb c'.tb), (Str.ofString "trailed", Value.int (c'.ts.length : Int) c'.tt)], z ≠ p.1) → stored.contains z = false → m' z = m₀ z) :
    InvEndG h₀ L (fun m' nx => True ∧ LS (Led A AD S SD HL KL TR CD C1 C2 PL KP LL UR UL CE c1a c1b c2a c2b c1t c2t kc ku0 us oc) (fun c => [(Str.ofString "bound", Value.int c.hb c.tb), (Str.ofString "trailed", Value.int (c.ts.length : Int) c.tt)]) x stored m₀ (fun c => Inv w S CD HL KL TR (i + 1) c ∧ Offs AD SD HL KL TR PL KP LL UR c.xs) m' nx) own s₁ { s₁ with heap := h', toks := tk } := by
  refine ls_end (Z := fun _ => True) c' F N ?_ ?_ ?_ ⟨I, of⟩ hk hr trivial
  · intro p hp
    unfold Led at hp
    simp only [List.mem_cons] at hp ⊢
    rcases hp with hp | hp | hp | hp | hp | hp | hp | hp | hp | hp | hp | hp | hp | hp | hp | hp | hp
    all_goals first | simp only [hp, true_or, or_true] | simp only [hx p hp, or_true]
  · intro p hp
    simp only [List.mem_cons, ho p hp, or_true]
  · intro p hp b hb
    unfold Led at hb hoff
    simp only [List.map_cons, List.mem_cons] at hb hoff
    have h1 := fun b hb => hoff p hp b hb
    rcases hb with hb | hb | hb | hb | hb | hb | hb | hb | hb | hb | hb | hb | hb | hb | hb | hb | hb
    any_goals (first | (exact h1 b (by rw [hb]; simp)) | skip)
    obtain ⟨q, hq, rfl⟩ := List.mem_map.mp hb
    rcases hn q hq with h2 | h2
    · refine h1 _ ?_
      have h3 : q.1 ∈ c.xs.map (·.1) := List.mem_map.mpr ⟨q, h2, rfl⟩
      simp [h3]
    · exact h2 p hp
end

end
section
theorem updF_upd {d : Addr} {o : Obj} (o' : Obj) : ∀ {l : List (Addr × Obj)} {g : Obj → List (Addr × Obj)}, UpdF d o l g → Upd d o o' l (g o')
  | _, _, .head h => .head h
  | _, _, .tail h r => .tail h (updF_upd o' r)
section
variable {prog : Program} {w : World} {A : Around} {E : Value → Shared → Prop} {s : Shared} {h₀ : Heap} {L D : Addr} {m : Str → Option Value} {news : List (Addr × Obj)} {nf : Obj → List (Addr × Obj)} {its : List Value} {ns : List Int} {n : Nat}
theorem m_pop0 {u : Tok} {Q : Value → Shared → Prop} (F : Fr h₀ L s.heap m) (N : News h₀ L s.heap news) (U : UpdF D (listOf its.toArray n) news nf) (hi : IntsAre its ns) (hne : 0 < its.length) (hz : its.length ≤ 1000)
    (h : ∀ h' r rn a t, its = .int a t :: r → ns = a :: rn → Fr h₀ L h' m → News h₀ L h' (nf (listOf r.toArray (n + 1))) → Q (.int a t) { s with heap := h' }) : wpAny (model prog w) A (call (.builtin "list.pop") [.ref D, .int 0 u]) Q E s := by
  cases hi with
  | nil => exact absurd hne (Nat.lt_irrefl 0)
  | cons a t hr =>
    rename_i r rn
    exact kl_popAt (k := 0) (p := []) (q := r) (y := .int a t) F N rfl (by simp [seqIndex?]) rfl (updF_upd _ U) (by show (Value.int a t :: r).length ≤ sizeLine; rw [sizeLine_eq]; omega) fun h' F' N' => h h' r rn a t rfl rfl F' N'
theorem m_back {value slice : Expr} {b : Int} {u : Tok} {Q : Value → Shared → Prop} (N : News h₀ L s.heap news) (hm : (D, listOf its.toArray n) ∈ news) (hne : 0 < its.length) (hx : ∃ t, its[its.length - 1]? = some (.int b t)) (h : ∀ t, Q (.int b t) s)
    (hs : subscripted slice false (.ref D) (.int (-1) u) = operate [.ref D, .int (-1) u] (getItem (.ref D) (.int (-1) u)) := by with_unfolding_all rfl) :
    wpAny (model prog w) A (subscriptTail value slice (.ref D) (.int (-1) u)) Q E s := by
  obtain ⟨t, ht⟩ := hx
  refine kba_turn (value' := PySem.Expr.Name (PySem.Str.ofString "_") ⟨0, 0, 0, 0⟩) (fun _ => rfl) ?_
  exact kim_back (lo := listOf its.toArray n) (l := its) (n := n) N hm rfl rfl (by decide) (by omega) (by decide) (by rw [show ((-1 : Int) + (its.length : Int)).toNat = its.length - 1 by omega]; exact ht) (h t) hs (fun _ => rfl)
end
section
variable {w : World} {S CD HL KL TR i : Nat} {c : St}
theorem ints_last {vs : List Value} {ns : List Int} {b : Int} {r : List Int} (hI : IntsAre vs ns) (e : ns.reverse = b :: r) : ∃ t, vs[vs.length - 1]? = some (.int b t) := by
  have e2 : ns = r.reverse ++ [b] := by rw [← List.reverse_cons, ← e, List.reverse_reverse]
  have hl := hI.length
  rw [e2, List.length_append, List.length_singleton] at hl
  obtain ⟨t, ht⟩ := hI.get r.reverse.length b (by rw [e2, List.getElem?_append_right (Nat.le_refl _), Nat.sub_self]; rfl)
  exact ⟨t, by rw [hl]; simpa using ht⟩
theorem Inv.last (I : Inv w S CD HL KL TR i c) (h : 0 < c.ps.length) : ∃ t, c.ps[c.ps.length - 1]? = some (.int c.b t) := by
  have hl := I.pi.length
  rcases I.ch.head with ⟨_, e⟩ | ⟨_, r, e⟩
  · have : c.pn.length = 0 := by have := congrArg List.length e; simpa using this
    omega
  · exact ints_last I.pi e
theorem Inv.none (I : Inv w S CD HL KL TR i c) (h : ¬ 0 < c.ps.length) : c.b = -1 := by
  have hl := I.pi.length
  rcases I.ch.head with ⟨hb, _⟩ | ⟨_, r, e⟩
  · have := I.b1; omega
  · have := congrArg List.length e
    rw [List.length_reverse, List.length_cons] at this
    omega
theorem Inv.lastD (I : Inv w S CD HL KL TR i c) (h : 0 < c.ps.length) : c.pn.getD (-1 + (c.pn.length : Int)).toNat 0 = c.b := by
  have hl := I.pi.length
  obtain ⟨t, ht⟩ := I.last h
  obtain ⟨t', ht'⟩ := I.pi.get (c.pn.length - 1) (c.pn.getD (c.pn.length - 1) 0) (by rw [List.getD_eq_getElem?_getD, List.getElem?_eq_getElem (by omega)]; rfl)
  rw [← hl, ht] at ht'
  rw [show ((-1 : Int) + (c.pn.length : Int)).toNat = c.ps.length - 1 by omega]
  injection ht' with ht'
  injection ht' with h1 _
  exact h1.symm
end

end
section
structure Ords (A AD S SD HL KL TR CD C1 C2 PL KP LL UR UL CE : Nat) : Prop where
  o0 : CE < UL
  o1 : UL < UR
  o2 : UR < C1
  o3 : C1 < C2
  o4 : C2 < CD
  o5 : CD < AD
  o6 : AD < A
  o7 : A < SD
  o8 : SD < S
  o9 : S < HL
  o10 : HL < KL
  o11 : KL < TR
  o12 : TR < PL
  o13 : PL < KP
  o14 : KP < LL
section
variable {A AD S SD HL KL TR CD C1 C2 PL KP LL UR UL CE : Nat} {x0 x1 x2 x3 x4 x5 x6 x7 x8 x9 x10 x11 x12 x13 x14 x15 y : Obj} {xs : List (Addr × Obj)}
theorem updF_UR (o : Ords A AD S SD HL KL TR CD C1 C2 PL KP LL UR UL CE) (h : ∀ p ∈ xs, p.1 ≠ UR) : UpdF UR x13 ((A, x0) :: (AD, x1) :: (S, x2) :: (SD, x3) :: (HL, x4) :: (KL, x5) :: (TR, x6) :: (CD, x7) :: (C1, x8) :: (C2, x9) :: (PL, x10) :: (KP, x11) :: (LL, x12) :: (UR, x13) :: (UL, x14) :: (CE, x15) :: xs) (fun y => ((A, x0) :: (AD, x1) :: (S, x2) :: (SD, x3) :: (HL, x4) :: (KL, x5) :: (TR, x6) :: (CD, x7) :: (C1, x8) :: (C2, x9) :: (PL, x10) :: (KP, x11) :: (LL, x12) :: (UR, y) :: (UL, x14) :: (CE, x15) :: xs)) := by
  obtain ⟨o0, o1, o2, o3, o4, o5, o6, o7, o8, o9, o10, o11, o12, o13, o14⟩ := o
  have e : ∀ {a b : Nat} {z : Obj}, a ≠ b → (a, z).1 ≠ b := fun h => h
  refine .tail (e (by omega)) ?_
  refine .tail (e (by omega)) ?_
  refine .tail (e (by omega)) ?_
  refine .tail (e (by omega)) ?_
  refine .tail (e (by omega)) ?_
  refine .tail (e (by omega)) ?_
  refine .tail (e (by omega)) ?_
  refine .tail (e (by omega)) ?_
  refine .tail (e (by omega)) ?_
  refine .tail (e (by omega)) ?_
  refine .tail (e (by omega)) ?_
  refine .tail (e (by omega)) ?_
  refine .tail (e (by omega)) ?_
  refine .head ?_
  refine List.forall_mem_cons.mpr ⟨e (by omega), ?_⟩
  refine List.forall_mem_cons.mpr ⟨e (by omega), ?_⟩
  exact h
theorem upd_UR (o : Ords A AD S SD HL KL TR CD C1 C2 PL KP LL UR UL CE) (h : ∀ p ∈ xs, p.1 ≠ UR) : Upd UR x13 y ((A, x0) :: (AD, x1) :: (S, x2) :: (SD, x3) :: (HL, x4) :: (KL, x5) :: (TR, x6) :: (CD, x7) :: (C1, x8) :: (C2, x9) :: (PL, x10) :: (KP, x11) :: (LL, x12) :: (UR, x13) :: (UL, x14) :: (CE, x15) :: xs) ((A, x0) :: (AD, x1) :: (S, x2) :: (SD, x3) :: (HL, x4) :: (KL, x5) :: (TR, x6) :: (CD, x7) :: (C1, x8) :: (C2, x9) :: (PL, x10) :: (KP, x11) :: (LL, x12) :: (UR, y) :: (UL, x14) :: (CE, x15) :: xs) := updF_upd y (updF_UR o h)
theorem updF_LL (o : Ords A AD S SD HL KL TR CD C1 C2 PL KP LL UR UL CE) (h : ∀ p ∈ xs, p.1 ≠ LL) : UpdF LL x12 ((A, x0) :: (AD, x1) :: (S, x2) :: (SD, x3) :: (HL, x4) :: (KL, x5) :: (TR, x6) :: (CD, x7) :: (C1, x8) :: (C2, x9) :: (PL, x10) :: (KP, x11) :: (LL, x12) :: (UR, x13) :: (UL, x14) :: (CE, x15) :: xs) (fun y => ((A, x0) :: (AD, x1) :: (S, x2) :: (SD, x3) :: (HL, x4) :: (KL, x5) :: (TR, x6) :: (CD, x7) :: (C1, x8) :: (C2, x9) :: (PL, x10) :: (KP, x11) :: (LL, y) :: (UR, x13) :: (UL, x14) :: (CE, x15) :: xs)) := by
  obtain ⟨o0, o1, o2, o3, o4, o5, o6, o7, o8, o9, o10, o11, o12, o13, o14⟩ := o
  have e : ∀ {a b : Nat} {z : Obj}, a ≠ b → (a, z).1 ≠ b := fun h => h
  refine .tail (e (by omega)) ?_
  refine .tail (e (by omega)) ?_
  refine .tail (e (by omega)) ?_
  refine .tail (e (by omega)) ?_
  refine .tail (e (by omega)) ?_
  refine .tail (e (by omega)) ?_
  refine .tail (e (by omega)) ?_
  refine .tail (e (by omega)) ?_
  refine .tail (e (by omega)) ?_
  refine .tail (e (by omega)) ?_
  refine .tail (e (by omega)) ?_
  refine .tail (e (by omega)) ?_
  refine .head ?_
  refine List.forall_mem_cons.mpr ⟨e (by omega), ?_⟩
  refine List.forall_mem_cons.mpr ⟨e (by omega), ?_⟩
  refine List.forall_mem_cons.mpr ⟨e (by omega), ?_⟩
  exact h
theorem upd_LL (o : Ords A AD S SD HL KL TR CD C1 C2 PL KP LL UR UL CE) (h : ∀ p ∈ xs, p.1 ≠ LL) : Upd LL x12 y ((A, x0) :: (AD, x1) :: (S, x2) :: (SD, x3) :: (HL, x4) :: (KL, x5) :: (TR, x6) :: (CD, x7) :: (C1, x8) :: (C2, x9) :: (PL, x10) :: (KP, x11) :: (LL, x12) :: (UR, x13) :: (UL, x14) :: (CE, x15) :: xs) ((A, x0) :: (AD, x1) :: (S, x2) :: (SD, x3) :: (HL, x4) :: (KL, x5) :: (TR, x6) :: (CD, x7) :: (C1, x8) :: (C2, x9) :: (PL, x10) :: (KP, x11) :: (LL, y) :: (UR, x13) :: (UL, x14) :: (CE, x15) :: xs) := updF_upd y (updF_LL o h)
theorem updF_PL (o : Ords A AD S SD HL KL TR CD C1 C2 PL KP LL UR UL CE) (h : ∀ p ∈ xs, p.1 ≠ PL) : UpdF PL x10 ((A, x0) :: (AD, x1) :: (S, x2) :: (SD, x3) :: (HL, x4) :: (KL, x5) :: (TR, x6) :: (CD, x7) :: (C1, x8) :: (C2, x9) :: (PL, x10) :: (KP, x11) :: (LL, x12) :: (UR, x13) :: (UL, x14) :: (CE, x15) :: xs) (fun y => ((A, x0) :: (AD, x1) :: (S, x2) :: (SD, x3) :: (HL, x4) :: (KL, x5) :: (TR, x6) :: (CD, x7) :: (C1, x8) :: (C2, x9) :: (PL, y) :: (KP, x11) :: (LL, x12) :: (UR, x13) :: (UL, x14) :: (CE, x15) :: xs)) := by
  obtain ⟨o0, o1, o2, o3, o4, o5, o6, o7, o8, o9, o10, o11, o12, o13, o14⟩ := o
  have e : ∀ {a b : Nat} {z : Obj}, a ≠ b → (a, z).1 ≠ b := fun h => h
  refine .tail (e (by omega)) ?_
  refine .tail (e (by omega)) ?_
  refine .tail (e (by omega)) ?_
  refine .tail (e (by omega)) ?_
  refine .tail (e (by omega)) ?_
  refine .tail (e (by omega)) ?_
  refine .tail (e (by omega)) ?_
  refine .tail (e (by omega)) ?_
  refine .tail (e (by omega)) ?_
  refine .tail (e (by omega)) ?_
  refine .head ?_
  refine List.forall_mem_cons.mpr ⟨e (by omega), ?_⟩
  refine List.forall_mem_cons.mpr ⟨e (by omega), ?_⟩
  refine List.forall_mem_cons.mpr ⟨e (by omega), ?_⟩
  refine List.forall_mem_cons.mpr ⟨e (by omega), ?_⟩
  refine List.forall_mem_cons.mpr ⟨e (by omega), ?_⟩
  exact h
theorem upd_PL (o : Ords A AD S SD HL KL TR CD C1 C2 PL KP LL UR UL CE) (h : ∀ p ∈ xs, p.1 ≠ PL) : Upd PL x10 y ((A, x0) :: (AD, x1) :: (S, x2) :: (SD, x3) :: (HL, x4) :: (KL, x5) :: (TR, x6) :: (CD, x7) :: (C1, x8) :: (C2, x9) :: (PL, x10) :: (KP, x11) :: (LL, x12) :: (UR, x13) :: (UL, x14) :: (CE, x15) :: xs) ((A, x0) :: (AD, x1) :: (S, x2) :: (SD, x3) :: (HL, x4) :: (KL, x5) :: (TR, x6) :: (CD, x7) :: (C1, x8) :: (C2, x9) :: (PL, y) :: (KP, x11) :: (LL, x12) :: (UR, x13) :: (UL, x14) :: (CE, x15) :: xs) := updF_upd y (updF_PL o h)
theorem updF_KP (o : Ords A AD S SD HL KL TR CD C1 C2 PL KP LL UR UL CE) (h : ∀ p ∈ xs, p.1 ≠ KP) : UpdF KP x11 ((A, x0) :: (AD, x1) :: (S, x2) :: (SD, x3) :: (HL, x4) :: (KL, x5) :: (TR, x6) :: (CD, x7) :: (C1, x8) :: (C2, x9) :: (PL, x10) :: (KP, x11) :: (LL, x12) :: (UR, x13) :: (UL, x14) :: (CE, x15) :: xs) (fun y => ((A, x0) :: (AD, x1) :: (S, x2) :: (SD, x3) :: (HL, x4) :: (KL, x5) :: (TR, x6) :: (CD, x7) :: (C1, x8) :: (C2, x9) :: (PL, x10) :: (KP, y) :: (LL, x12) :: (UR, x13) :: (UL, x14) :: (CE, x15) :: xs)) := by
  obtain ⟨o0, o1, o2, o3, o4, o5, o6, o7, o8, o9, o10, o11, o12, o13, o14⟩ := o
  have e : ∀ {a b : Nat} {z : Obj}, a ≠ b → (a, z).1 ≠ b := fun h => h
  refine .tail (e (by omega)) ?_
  refine .tail (e (by omega)) ?_
  refine .tail (e (by omega)) ?_
  refine .tail (e (by omega)) ?_
  refine .tail (e (by omega)) ?_
  refine .tail (e (by omega)) ?_
  refine .tail (e (by omega)) ?_
  refine .tail (e (by omega)) ?_
  refine .tail (e (by omega)) ?_
  refine .tail (e (by omega)) ?_
  refine .tail (e (by omega)) ?_
  refine .head ?_
  refine List.forall_mem_cons.mpr ⟨e (by omega), ?_⟩
  refine List.forall_mem_cons.mpr ⟨e (by omega), ?_⟩
  refine List.forall_mem_cons.mpr ⟨e (by omega), ?_⟩
  refine List.forall_mem_cons.mpr ⟨e (by omega), ?_⟩
  exact h
theorem upd_KP (o : Ords A AD S SD HL KL TR CD C1 C2 PL KP LL UR UL CE) (h : ∀ p ∈ xs, p.1 ≠ KP) : Upd KP x11 y ((A, x0) :: (AD, x1) :: (S, x2) :: (SD, x3) :: (HL, x4) :: (KL, x5) :: (TR, x6) :: (CD, x7) :: (C1, x8) :: (C2, x9) :: (PL, x10) :: (KP, x11) :: (LL, x12) :: (UR, x13) :: (UL, x14) :: (CE, x15) :: xs) ((A, x0) :: (AD, x1) :: (S, x2) :: (SD, x3) :: (HL, x4) :: (KL, x5) :: (TR, x6) :: (CD, x7) :: (C1, x8) :: (C2, x9) :: (PL, x10) :: (KP, y) :: (LL, x12) :: (UR, x13) :: (UL, x14) :: (CE, x15) :: xs) := updF_upd y (updF_KP o h)
theorem updF_AD (o : Ords A AD S SD HL KL TR CD C1 C2 PL KP LL UR UL CE) (h : ∀ p ∈ xs, p.1 ≠ AD) : UpdF AD x1 ((A, x0) :: (AD, x1) :: (S, x2) :: (SD, x3) :: (HL, x4) :: (KL, x5) :: (TR, x6) :: (CD, x7) :: (C1, x8) :: (C2, x9) :: (PL, x10) :: (KP, x11) :: (LL, x12) :: (UR, x13) :: (UL, x14) :: (CE, x15) :: xs) (fun y => ((A, x0) :: (AD, y) :: (S, x2) :: (SD, x3) :: (HL, x4) :: (KL, x5) :: (TR, x6) :: (CD, x7) :: (C1, x8) :: (C2, x9) :: (PL, x10) :: (KP, x11) :: (LL, x12) :: (UR, x13) :: (UL, x14) :: (CE, x15) :: xs)) := by
  obtain ⟨o0, o1, o2, o3, o4, o5, o6, o7, o8, o9, o10, o11, o12, o13, o14⟩ := o
  have e : ∀ {a b : Nat} {z : Obj}, a ≠ b → (a, z).1 ≠ b := fun h => h
  refine .tail (e (by omega)) ?_
  refine .head ?_
  refine List.forall_mem_cons.mpr ⟨e (by omega), ?_⟩
  refine List.forall_mem_cons.mpr ⟨e (by omega), ?_⟩
  refine List.forall_mem_cons.mpr ⟨e (by omega), ?_⟩
  refine List.forall_mem_cons.mpr ⟨e (by omega), ?_⟩
  refine List.forall_mem_cons.mpr ⟨e (by omega), ?_⟩
  refine List.forall_mem_cons.mpr ⟨e (by omega), ?_⟩
  refine List.forall_mem_cons.mpr ⟨e (by omega), ?_⟩
  refine List.forall_mem_cons.mpr ⟨e (by omega), ?_⟩
  refine List.forall_mem_cons.mpr ⟨e (by omega), ?_⟩
  refine List.forall_mem_cons.mpr ⟨e (by omega), ?_⟩
  refine List.forall_mem_cons.mpr ⟨e (by omega), ?_⟩
  refine List.forall_mem_cons.mpr ⟨e (by omega), ?_⟩
  refine List.forall_mem_cons.mpr ⟨e (by omega), ?_⟩
  refine List.forall_mem_cons.mpr ⟨e (by omega), ?_⟩
  exact h
theorem upd_AD (o : Ords A AD S SD HL KL TR CD C1 C2 PL KP LL UR UL CE) (h : ∀ p ∈ xs, p.1 ≠ AD) : Upd AD x1 y ((A, x0) :: (AD, x1) :: (S, x2) :: (SD, x3) :: (HL, x4) :: (KL, x5) :: (TR, x6) :: (CD, x7) :: (C1, x8) :: (C2, x9) :: (PL, x10) :: (KP, x11) :: (LL, x12) :: (UR, x13) :: (UL, x14) :: (CE, x15) :: xs) ((A, x0) :: (AD, y) :: (S, x2) :: (SD, x3) :: (HL, x4) :: (KL, x5) :: (TR, x6) :: (CD, x7) :: (C1, x8) :: (C2, x9) :: (PL, x10) :: (KP, x11) :: (LL, x12) :: (UR, x13) :: (UL, x14) :: (CE, x15) :: xs) := updF_upd y (updF_AD o h)
theorem off_tail (o : Ords A AD S SD HL KL TR CD C1 C2 PL KP LL UR UL CE) (h1 : ∀ p ∈ xs, p.1 ≠ AD) (h2 : ∀ p ∈ xs, p.1 ≠ SD) (h3 : ∀ p ∈ xs, p.1 ≠ HL) (h4 : ∀ p ∈ xs, p.1 ≠ KL) (h5 : ∀ p ∈ xs, p.1 ≠ TR) : Off AD SD HL KL TR ((PL, x10) :: (KP, x11) :: (LL, x12) :: (UR, x13) :: (UL, x14) :: (CE, x15) :: xs) := by
  obtain ⟨o0, o1, o2, o3, o4, o5, o6, o7, o8, o9, o10, o11, o12, o13, o14⟩ := o
  have e : ∀ {a b : Nat} {z : Obj}, a ≠ b → (a, z).1 ≠ b := fun h => h
  refine ⟨?_, ?_, ?_, ?_, ?_⟩
  · refine List.forall_mem_cons.mpr ⟨e (by omega), ?_⟩
    refine List.forall_mem_cons.mpr ⟨e (by omega), ?_⟩
    refine List.forall_mem_cons.mpr ⟨e (by omega), ?_⟩
    refine List.forall_mem_cons.mpr ⟨e (by omega), ?_⟩
    refine List.forall_mem_cons.mpr ⟨e (by omega), ?_⟩
    refine List.forall_mem_cons.mpr ⟨e (by omega), ?_⟩
    exact h1
  · refine List.forall_mem_cons.mpr ⟨e (by omega), ?_⟩
    refine List.forall_mem_cons.mpr ⟨e (by omega), ?_⟩
    refine List.forall_mem_cons.mpr ⟨e (by omega), ?_⟩
    refine List.forall_mem_cons.mpr ⟨e (by omega), ?_⟩
    refine List.forall_mem_cons.mpr ⟨e (by omega), ?_⟩
    refine List.forall_mem_cons.mpr ⟨e (by omega), ?_⟩
    exact h2
  · refine List.forall_mem_cons.mpr ⟨e (by omega), ?_⟩
    refine List.forall_mem_cons.mpr ⟨e (by omega), ?_⟩
    refine List.forall_mem_cons.mpr ⟨e (by omega), ?_⟩
    refine List.forall_mem_cons.mpr ⟨e (by omega), ?_⟩
    refine List.forall_mem_cons.mpr ⟨e (by omega), ?_⟩
    refine List.forall_mem_cons.mpr ⟨e (by omega), ?_⟩
    exact h3
  · refine List.forall_mem_cons.mpr ⟨e (by omega), ?_⟩
    refine List.forall_mem_cons.mpr ⟨e (by omega), ?_⟩
    refine List.forall_mem_cons.mpr ⟨e (by omega), ?_⟩
    refine List.forall_mem_cons.mpr ⟨e (by omega), ?_⟩
    refine List.forall_mem_cons.mpr ⟨e (by omega), ?_⟩
    refine List.forall_mem_cons.mpr ⟨e (by omega), ?_⟩
    exact h4
  · refine List.forall_mem_cons.mpr ⟨e (by omega), ?_⟩
    refine List.forall_mem_cons.mpr ⟨e (by omega), ?_⟩
    refine List.forall_mem_cons.mpr ⟨e (by omega), ?_⟩
    refine List.forall_mem_cons.mpr ⟨e (by omega), ?_⟩
    refine List.forall_mem_cons.mpr ⟨e (by omega), ?_⟩
    refine List.forall_mem_cons.mpr ⟨e (by omega), ?_⟩
    exact h5
theorem off_cons {p : Addr × Obj} {d1 d2 d3 d4 d5 : Nat} {tl : List (Addr × Obj)} (h : Off d1 d2 d3 d4 d5 tl) (h1 : p.1 ≠ d1) (h2 : p.1 ≠ d2) (h3 : p.1 ≠ d3) (h4 : p.1 ≠ d4) (h5 : p.1 ≠ d5) : Off d1 d2 d3 d4 d5 (p :: tl) :=
  let ⟨g1, g2, g3, g4, g5⟩ := h; ⟨List.forall_mem_cons.mpr ⟨h1, g1⟩, List.forall_mem_cons.mpr ⟨h2, g2⟩, List.forall_mem_cons.mpr ⟨h3, g3⟩, List.forall_mem_cons.mpr ⟨h4, g4⟩, List.forall_mem_cons.mpr ⟨h5, g5⟩⟩
theorem Ords.core (o : Ords A AD S SD HL KL TR CD C1 C2 PL KP LL UR UL CE) : C1 < C2 ∧ C2 < CD ∧ CD < AD ∧ AD < A ∧ A < SD ∧ SD < S ∧ S < HL ∧ HL < KL ∧ KL < TR := ⟨o.o3, o.o4, o.o5, o.o6, o.o7, o.o8, o.o9, o.o10, o.o11⟩
theorem ords_top (o : Ords A AD S SD HL KL TR CD C1 C2 PL KP LL UR UL CE) {D : Nat} (h : LL < D) : CE < D ∧ UL < D ∧ UR < D ∧ C1 < D ∧ C2 < D ∧ CD < D ∧ AD < D ∧ A < D ∧ SD < D ∧ S < D ∧ HL < D ∧ KL < D ∧ TR < D ∧ PL < D ∧ KP < D := by
  obtain ⟨o0, o1, o2, o3, o4, o5, o6, o7, o8, o9, o10, o11, o12, o13, o14⟩ := o
  omega
theorem lt_canon (o : Ords A AD S SD HL KL TR CD C1 C2 PL KP LL UR UL CE) {D : Nat} (l : ∀ p : Addr × Obj, p ∈ ((A, x0) :: (AD, x1) :: (S, x2) :: (SD, x3) :: (HL, x4) :: (KL, x5) :: (TR, x6) :: (CD, x7) :: (C1, x8) :: (C2, x9) :: (PL, x10) :: (KP, x11) :: (LL, x12) :: (UR, x13) :: (UL, x14) :: (CE, x15) :: xs) → p.1 < D) : AD < D ∧ SD < D ∧ HL < D ∧ KL < D ∧ TR < D ∧ PL < D ∧ KP < D ∧ LL < D ∧ UR < D ∧ ∀ p : Addr × Obj, p ∈ xs → @LT.lt Nat _ p.1 D := by
  have h : LL < D := l (LL, x12) (by simp)
  obtain ⟨o0, o1, o2, o3, o4, o5, o6, o7, o8, o9, o10, o11, o12, o13, o14⟩ := o
  refine ⟨by omega, by omega, by omega, by omega, by omega, by omega, by omega, h, by omega, fun p hp => l p ?_⟩
  simp only [List.mem_cons]
  simp only [hp, or_true]
theorem off1_canon {G : Nat} (h : LCg.Off1 G ((A, x0) :: (AD, x1) :: (S, x2) :: (SD, x3) :: (HL, x4) :: (KL, x5) :: (TR, x6) :: (CD, x7) :: (C1, x8) :: (C2, x9) :: (PL, x10) :: (KP, x11) :: (LL, x12) :: (UR, x13) :: (UL, x14) :: (CE, x15) :: xs)) : (@Ne Nat AD G) ∧ (@Ne Nat SD G) ∧ (@Ne Nat HL G) ∧ (@Ne Nat KL G) ∧ (@Ne Nat TR G) ∧ (@Ne Nat PL G) ∧ (@Ne Nat KP G) ∧ (@Ne Nat LL G) ∧ (@Ne Nat UR G) ∧ ∀ p : Addr × Obj, p ∈ xs → p.1 ≠ G := by
  have k : ∀ {l : List (Addr × Obj)}, LCg.Off1 G l → ∀ p ∈ l, p.1 ≠ G := fun {l} => by
    induction l with
    | nil => exact fun _ p hp => nomatch hp
    | cons a r ih => exact fun h p hp => (List.mem_cons.mp hp).elim (fun e => e ▸ h.1) (ih h.2 p)
  have k1 := k h
  refine ⟨k1 (AD, x1) (by simp), k1 (SD, x3) (by simp), k1 (HL, x4) (by simp), k1 (KL, x5) (by simp), k1 (TR, x6) (by simp), k1 (PL, x10) (by simp), k1 (KP, x11) (by simp), k1 (LL, x12) (by simp), k1 (UR, x13) (by simp), fun p hp => k1 p ?_⟩
  simp only [List.mem_cons]
  simp only [hp, or_true]
end
theorem rotx2 {h₀ h : Heap} {L : Addr} {e1 e2 c1 c2 c3 c4 c5 c6 c7 c8 c9 c10 t1 t2 t3 t4 t5 t6 : Addr × Obj} {xs : List (Addr × Obj)} (N : News h₀ L h (c1 :: c2 :: c3 :: c4 :: c5 :: c6 :: c7 :: c8 :: c9 :: c10 :: e1 :: e2 :: t1 :: t2 :: t3 :: t4 :: t5 :: t6 :: xs)) :
    News h₀ L h (c1 :: c2 :: c3 :: c4 :: c5 :: c6 :: c7 :: c8 :: c9 :: c10 :: t1 :: t2 :: t3 :: t4 :: t5 :: t6 :: e1 :: e2 :: xs) := by
  intro p hp
  refine N p ?_
  simp only [List.mem_cons] at hp ⊢
  rcases hp with hp | hp | hp | hp | hp | hp | hp | hp | hp | hp | hp | hp | hp | hp | hp | hp | hp | hp | hp
  all_goals simp only [hp, true_or, or_true]
section
variable {A AD S SD HL KL TR CD C1 C2 PL KP LL UR UL CE : Nat} {D : Nat}
theorem ll_of (o : Ords A AD S SD HL KL TR CD C1 C2 PL KP LL UR UL CE) {l : List (Addr × Obj)} (h : ∀ p : Addr × Obj, p ∈ l → p.1 < D) (hm : ∃ x, (LL, x) ∈ l) : @LT.lt Nat _ LL D := let ⟨x, hx⟩ := hm; h (LL, x) hx
theorem over_UR (o : Ords A AD S SD HL KL TR CD C1 C2 PL KP LL UR UL CE) (h : LL < D) : @Ne Nat D UR := by
  obtain ⟨o0, o1, o2, o3, o4, o5, o6, o7, o8, o9, o10, o11, o12, o13, o14⟩ := o
  omega
theorem over_AD (o : Ords A AD S SD HL KL TR CD C1 C2 PL KP LL UR UL CE) (h : LL < D) : @Ne Nat D AD := by
  obtain ⟨o0, o1, o2, o3, o4, o5, o6, o7, o8, o9, o10, o11, o12, o13, o14⟩ := o
  omega
theorem over_SD (o : Ords A AD S SD HL KL TR CD C1 C2 PL KP LL UR UL CE) (h : LL < D) : @Ne Nat D SD := by
  obtain ⟨o0, o1, o2, o3, o4, o5, o6, o7, o8, o9, o10, o11, o12, o13, o14⟩ := o
  omega
theorem over_HL (o : Ords A AD S SD HL KL TR CD C1 C2 PL KP LL UR UL CE) (h : LL < D) : @Ne Nat D HL := by
  obtain ⟨o0, o1, o2, o3, o4, o5, o6, o7, o8, o9, o10, o11, o12, o13, o14⟩ := o
  omega
theorem over_KL (o : Ords A AD S SD HL KL TR CD C1 C2 PL KP LL UR UL CE) (h : LL < D) : @Ne Nat D KL := by
  obtain ⟨o0, o1, o2, o3, o4, o5, o6, o7, o8, o9, o10, o11, o12, o13, o14⟩ := o
  omega
theorem over_TR (o : Ords A AD S SD HL KL TR CD C1 C2 PL KP LL UR UL CE) (h : LL < D) : @Ne Nat D TR := by
  obtain ⟨o0, o1, o2, o3, o4, o5, o6, o7, o8, o9, o10, o11, o12, o13, o14⟩ := o
  omega
end

end
section
section
variable {prog : Program} {w : World} {Ar : Around} {E : Value → Shared → Prop} {s : Shared} {env : Env} {h₀ : Heap} {y : Str} {body : List Stmt} {Q : Flow → Shared → Prop} {A AD S SD HL KL TR CD C1 C2 PL KP LL UR UL CE : Nat} {c1a c1b c2a c2b : Value} {c1t c2t : Tok} {kc ku0 : Nat} {us : List Value} {oc : Obj}
theorem law_range {r : Addr} {b₀ : Int} {t₀ u₀ v₀ : Tok} {n : Nat} {m₀ : Str → Option Value} {ea es : List DictEntry} {na ns kh kk kt kp kl : Nat} {ok : Obj} {x z : Int} {tx tz : Tok} {ku : Nat} {tb tt : Tok} {u1 u2 u3 u4 v1 v2 v3 : Tok} (stored : List Str)
    (hord : Ords A AD S SD HL KL TR CD C1 C2 PL KP LL UR UL CE) (hh : Ar.handled = none) (hr : IsRange s.heap r 0 b₀ 1 t₀ u₀ v₀) (hb : b₀ = (n : Int)) (hn8 : n ≤ 8) (F : Fr h₀ env.locals s.heap m₀)
    (N : News h₀ env.locals s.heap ((LL, listOf ([] : List Value).toArray kl) :: (KP, ok) :: (PL, listOf ([] : List Value).toArray kp) :: (A, instObj 541 AD) :: (AD, dictOf ea na) :: (S, instObj 381 SD) :: (SD, dictOf es ns) :: (HL, listOf ([] : List Value).toArray kh) :: (KL, listOf ([] : List Value).toArray kk) :: (TR, listOf ([] : List Value).toArray kt) :: (CD, listOf ([.ref C1, .ref C2] : List Value).toArray kc) :: (C2, codeTup c2a c2b 1 c2t) :: (C1, codeTup c1a c1b 2 c1t) :: (UR, listOf ([.int x tx, .ref UL, .int z tz] : List Value).toArray ku) :: (UL, listOf us.toArray ku0) :: (CE, oc) :: []))
    (hA : AIs ea S CD 1 (-1) (-1) (-1) u1 u2 u3 u4) (hS : SIs es HL KL TR 0 0 v1 v2 v3) (hd : ok.IsDictOf (PySem.intKind PySem.Challenge.rw_rh0105_01.row.prog w) []) (hu : 0 ≤ x ∧ 0 ≤ z ∧ z ≤ 100)
    (hk1 : m₀ (Str.ofString "bound") = some (.int 0 tb)) (hk2 : m₀ (Str.ofString "trailed") = some (.int 0 tt))
    (turn : Ords A AD S SD HL KL TR CD C1 C2 PL KP LL UR UL CE → ∀ i t (c : St) (u : Str → Option Value) h tk own, i < n → Inv w S CD HL KL TR i c → OwnOff own ((Led A AD S SD HL KL TR CD C1 C2 PL KP LL UR UL CE c1a c1b c2a c2b c1t c2t kc ku0 us oc c).map (·.1)) → Offs AD SD HL KL TR PL KP LL UR c.xs → Offs AD SD HL KL TR PL KP LL UR (c.xs ++ own) →
      Fr h₀ env.locals h (fun q => if q = y then some (.int (i : Int) t) else kstB (fun z => if stored.contains z then u z else m₀ z) [(Str.ofString "bound", Value.int c.hb c.tb), (Str.ofString "trailed", Value.int (c.ts.length : Int) c.tt)] q) → News h₀ env.locals h ((A, instObj 541 AD) :: (AD, dictOf c.ea c.na) :: (S, instObj 381 SD) :: (SD, dictOf c.es c.ns) :: (HL, listOf (c.hs).toArray c.kh) :: (KL, listOf (c.ks).toArray c.kk) :: (TR, listOf (c.ts).toArray c.kt) :: (CD, listOf ([.ref C1, .ref C2] : List Value).toArray kc) :: (C1, codeTup c1a c1b 2 c1t) :: (C2, codeTup c2a c2b 1 c2t) :: ((PL, listOf c.ps.toArray c.kp) :: (KP, c.ok) :: (LL, listOf c.ls.toArray c.kl) :: (UR, listOf ([.int c.x c.tx, .ref UL, .int c.z c.tz] : List Value).toArray c.ku) :: (UL, listOf us.toArray ku0) :: (CE, oc) :: (c.xs ++ own))) →
      wpAny (model prog w) Ar (execs body env) (InvPostG h₀ env.locals (fun m' nx => True ∧ LS (Led A AD S SD HL KL TR CD C1 C2 PL KP LL UR UL CE c1a c1b c2a c2b c1t c2t kc ku0 us oc) (fun c => [(Str.ofString "bound", Value.int c.hb c.tb), (Str.ofString "trailed", Value.int (c.ts.length : Int) c.tt)]) y stored m₀ (fun c => Inv w S CD HL KL TR (i + 1) c ∧ Offs AD SD HL KL TR PL KP LL UR c.xs) m' nx) own { s with heap := h, toks := tk } Q) E { s with heap := h, toks := tk })
    (done : Ords A AD S SD HL KL TR CD C1 C2 PL KP LL UR UL CE → ∀ (c : St) (u : Str → Option Value) h tk, Inv w S CD HL KL TR n c → Offs AD SD HL KL TR PL KP LL UR c.xs → Fr h₀ env.locals h (fun q => if q = y then u q else kstB (fun z => if stored.contains z then u z else m₀ z) [(Str.ofString "bound", Value.int c.hb c.tb), (Str.ofString "trailed", Value.int (c.ts.length : Int) c.tt)] q) → News h₀ env.locals h ((A, instObj 541 AD) :: (AD, dictOf c.ea c.na) :: (S, instObj 381 SD) :: (SD, dictOf c.es c.ns) :: (HL, listOf (c.hs).toArray c.kh) :: (KL, listOf (c.ks).toArray c.kk) :: (TR, listOf (c.ts).toArray c.kt) :: (CD, listOf ([.ref C1, .ref C2] : List Value).toArray kc) :: (C1, codeTup c1a c1b 2 c1t) :: (C2, codeTup c2a c2b 1 c2t) :: ((PL, listOf c.ps.toArray c.kp) :: (KP, c.ok) :: (LL, listOf c.ls.toArray c.kl) :: (UR, listOf ([.int c.x c.tx, .ref UL, .int c.z c.tz] : List Value).toArray c.ku) :: (UL, listOf us.toArray ku0) :: (CE, oc) :: c.xs)) → Q .next { s with heap := h, toks := tk }) :
    wpAny (model prog w) Ar (pyIter (.ref r)) (fun it s₂ => LoopAtV prog w Ar h₀ env y body Q E it s₂) E s := by
  refine my_range (σ := St) (Led A AD S SD HL KL TR CD C1 C2 PL KP LL UR UL CE c1a c1b c2a c2b c1t c2t kc ku0 us oc) (fun c => [(Str.ofString "bound", Value.int c.hb c.tb), (Str.ofString "trailed", Value.int (c.ts.length : Int) c.tt)]) stored (fun i c => Inv w S CD HL KL TR i c ∧ Offs AD SD HL KL TR PL KP LL UR c.xs)
    { ea := ea, es := es, na := na, ns := ns, kh := kh, kk := kk, kt := kt, hs := [], ks := [], ts := [], cp := 1, e := -1, b := -1, b0 := -1, hb := 0, bb := 0, u1 := u1, u2 := u2, u3 := u3, u4 := u4, v1 := v1, v2 := v2, v3 := v3, ps := [], pn := [], kp := kp, ok := ok, kvs := [], ls := [], ln := [], kl := kl, x := x, z := z, tx := tx, tz := tz, ku := ku, cnt := 0, ct := tb, tb := tb, tt := tt, xs := [] }
    hh hr hb (by omega) F N ?sub ?P0 ?K0 ?turn ?done
  case sub =>
    intro p hp
    unfold Led at hp
    simp only [List.mem_cons] at hp ⊢
    rcases hp with hp | hp | hp | hp | hp | hp | hp | hp | hp | hp | hp | hp | hp | hp | hp | hp | hp
    all_goals simp only [hp, true_or, or_true]
  case P0 =>
    refine ⟨⟨hA, hS, .inl rfl, Nat.le_refl _, Nat.le_refl _, Nat.le_refl _, Nat.le_refl _, Nat.le_refl _, Nat.le_refl _, ?_, ?_, ?_, ?_, ?_, ?_, ?_, ?_, ?_, ?_, .nil, .nil, ?_, .nil ?_, .nil, hd, ?_, hu⟩, ⟨?_, ?_, ?_, ?_, ?_, ?_, ?_, ?_, ?_⟩⟩
    all_goals dsimp only
    all_goals first | (intro _ h; exact nomatch h) | omega | (intro h; exfalso; omega) | (intro _; exact ⟨rfl, rfl⟩) | simp
  case K0 =>
    intro p hp
    rcases List.mem_cons.mp hp with rfl | hp
    · exact hk1
    · rcases List.mem_cons.mp hp with rfl | hp
      · exact hk2
      · exact nomatch hp
  case turn =>
    intro i t c u h tk own hi hP hoff F9 N9
    exact turn hord i t c u h tk own hi hP.1 hoff hP.2 (hP.2.app (own_offs hoff)) F9 N9
  case done =>
    intro c u h tk hP F9 N9
    exact done hord c u h tk hP.1 hP.2 F9 N9
end

end
section
theorem stn_ne {z a : Str} {l : List Str} (h : l.contains z = false) (ha : l.contains a = true) : z ≠ a := fun e => by rw [e, ha] at h; cases h
section
variable {A AD S SD HL KL TR CD C1 C2 PL KP LL UR UL CE : Nat} {c1a c1b c2a c2b : Value} {c1t c2t : Tok} {kc ku0 : Nat} {us : List Value} {oc : Obj} {w : World} {i : Nat} {c : St} {h₀ h' : Heap} {L : Addr} {m' m₀ : Str → Option Value} {own : List (Addr × Obj)} {s₁ : Shared} {tk : Nat} {y : Str} {stn : List Str} {x z : Int} {tx tz : Tok} {ku : Nat}
theorem Inv.tops (I : Inv w S CD HL KL TR i c) : ∀ cp' : Int, cp' = 1 ∨ cp' = 2 → 0 ≤ topV c.e c.b cp' c.cnt ∧ topV c.e c.b cp' c.cnt ≤ c.ks.length ∧ (0 ≤ c.b → c.b + c.cnt + 8 ≤ topV c.e c.b cp' c.cnt) := fun cp' h =>
  (I.setcp (ea' := putL (Str.ofString "cp") 0 (.str (Str.ofString "cp") 0) (.int cp' 0) c.ea) (na' := 0) (u := 0) (cp' := cp') h (AIs.set_cp I.hA)).top
def EndOK (A AD S SD HL KL TR CD C1 C2 PL KP LL UR UL CE : Nat) (c1a c1b c2a c2b : Value) (c1t c2t : Tok) (kc ku0 : Nat) (us : List Value) (oc : Obj) (w : World) (i : Nat) (h₀ : Heap) (L : Addr) (y : Str) (stn : List Str) (m₀ : Str → Option Value) (own : List (Addr × Obj)) (s₁ s₂ : Shared) : Prop :=
  InvEndG h₀ L (fun m' nx => True ∧ LS (Led A AD S SD HL KL TR CD C1 C2 PL KP LL UR UL CE c1a c1b c2a c2b c1t c2t kc ku0 us oc) (fun c => [(Str.ofString "bound", Value.int c.hb c.tb), (Str.ofString "trailed", Value.int (c.ts.length : Int) c.tt)]) y stn m₀ (fun c => Inv w S CD HL KL TR (i + 1) c ∧ Offs AD SD HL KL TR PL KP LL UR c.xs) m' nx) own s₁ s₂
theorem way1 {v : Value} {kh' kl' : Nat} {t : Tok} (I : Inv w S CD HL KL TR i c) (of : Offs AD SD HL KL TR PL KP LL UR c.xs) (hoff : OwnOff own ((Led A AD S SD HL KL TR CD C1 C2 PL KP LL UR UL CE c1a c1b c2a c2b c1t c2t kc ku0 us oc c).map (·.1))) (hu : 0 ≤ x ∧ 0 ≤ z ∧ z ≤ 100) (F : Fr h₀ L h' m')
    (N : News h₀ L h' ((A, instObj 541 AD) :: (AD, dictOf c.ea c.na) :: (S, instObj 381 SD) :: (SD, dictOf c.es c.ns) :: (HL, listOf (c.hs ++ [v]).toArray kh') :: (KL, listOf (c.ks).toArray c.kk) :: (TR, listOf (c.ts).toArray c.kt) :: (CD, listOf ([.ref C1, .ref C2] : List Value).toArray kc) :: (C1, codeTup c1a c1b 2 c1t) :: (C2, codeTup c2a c2b 1 c2t) :: ((PL, listOf c.ps.toArray c.kp) :: (KP, c.ok) :: (LL, listOf (c.ls ++ [Value.int (c.hs.length : Int) t]).toArray kl') :: (UR, listOf ([.int x tx, .ref UL, .int z tz] : List Value).toArray ku) :: (UL, listOf us.toArray ku0) :: (CE, oc) :: (c.xs ++ own))))
    (hb : m' (Str.ofString "bound") = some (.int c.hb c.tb)) (ht : m' (Str.ofString "trailed") = some (.int (c.ts.length : Int) c.tt)) (hr : ∀ z, z ≠ y → z ≠ Str.ofString "bound" → z ≠ Str.ofString "trailed" → stn.contains z = false → m' z = m₀ z) :
    EndOK A AD S SD HL KL TR CD C1 C2 PL KP LL UR UL CE c1a c1b c2a c2b c1t c2t kc ku0 us oc w i h₀ L y stn m₀ own s₁ { s₁ with heap := h', toks := tk } := by
  refine turn_end (c := c) (c' := { c with hs := c.hs ++ [v], kh := kh', ls := c.ls ++ [.int (c.hs.length : Int) t], ln := c.ln ++ [(c.hs.length : Int)], kl := kl', x := x, z := z, tx := tx, tz := tz, ku := ku }) F N hoff (fun p hp => List.mem_append_left _ hp) (fun p hp => List.mem_append_right _ hp) (fun p hp => .inl hp) (I.var (own := own) hu) of ?_ ?_
  · intro p hp
    rcases List.mem_cons.mp hp with rfl | hp
    · exact hb
    · rcases List.mem_cons.mp hp with rfl | hp
      · exact ht
      · exact nomatch hp
  · exact fun z h1 h2 h3 => hr z h1 (h2 _ (.head _)) (h2 _ (.tail _ (.head _))) h3
theorem way2 {v : Value} {ts' r : List Value} {rn : List Int} {kt' kl' : Nat} {a n : Int} {ta tt' : Tok} (I : Inv w S CD HL KL TR i c) (of : Offs AD SD HL KL TR PL KP LL UR c.xs) (hoff : OwnOff own ((Led A AD S SD HL KL TR CD C1 C2 PL KP LL UR UL CE c1a c1b c2a c2b c1t c2t kc ku0 us oc c).map (·.1))) (hu : 0 ≤ x ∧ 0 ≤ z ∧ z ≤ 100) (F : Fr h₀ L h' m') {x1 x2 : Addr × Obj} {w9 : Value}
    (N : News h₀ L h' ((A, instObj 541 AD) :: (AD, dictOf c.ea c.na) :: (S, instObj 381 SD) :: (SD, dictOf c.es c.ns) :: (HL, listOf ((c.hs.set a.toNat v)).toArray c.kh) :: (KL, listOf (c.ks).toArray c.kk) :: (TR, listOf (ts').toArray kt') :: (CD, listOf ([.ref C1, .ref C2] : List Value).toArray kc) :: (C1, codeTup c1a c1b 2 c1t) :: (C2, codeTup c2a c2b 1 c2t) :: (x1 :: x2 :: (PL, listOf c.ps.toArray c.kp) :: (KP, c.ok) :: (LL, listOf r.toArray kl') :: (UR, listOf ([.int x tx, .ref UL, .int z tz] : List Value).toArray ku) :: (UL, listOf us.toArray ku0) :: (CE, oc) :: (c.xs ++ own))))
    (hl : c.ls = .int a ta :: r) (hn : c.ln = a :: rn) (hts : a < c.hb ∧ ts' = c.ts ++ [w9] ∨ c.hb ≤ a ∧ ts' = c.ts)
    (hb : m' (Str.ofString "bound") = some (.int c.hb c.tb)) (ht : m' (Str.ofString "trailed") = some (.int n tt')) (hn9 : n = (c.ts.length : Int) + 1 ∧ a < c.hb ∨ n = (c.ts.length : Int) ∧ ¬ a < c.hb) (hr : ∀ z, z ≠ y → z ≠ Str.ofString "bound" → z ≠ Str.ofString "trailed" → stn.contains z = false → m' z = m₀ z) :
    EndOK A AD S SD HL KL TR CD C1 C2 PL KP LL UR UL CE c1a c1b c2a c2b c1t c2t kc ku0 us oc w i h₀ L y stn m₀ own s₁ { s₁ with heap := h', toks := tk } := by
  have hq : (ts'.length : Int) = n ∧ ts'.length ≤ c.ts.length + 1 := by
    rcases hts with ⟨h1, rfl⟩ | ⟨h1, rfl⟩
    · rw [List.length_append, List.length_singleton]; omega
    · omega
  obtain ⟨htn, htl⟩ := hq
  refine turn_end (c := c) (c' := { c with hs := c.hs.set a.toNat v, kh := c.kh, ls := r, ln := rn, kl := kl', ts := ts', kt := kt', tt := tt', x := x, z := z, tx := tx, tz := tz, ku := ku }) F (fun p hp => N p (by simp only [List.mem_cons] at hp ⊢; (rcases hp with hp | hp | hp | hp | hp | hp | hp | hp | hp | hp | hp | hp | hp | hp | hp | hp | hp); all_goals simp only [hp, true_or, or_true])) hoff (fun p hp => List.mem_append_left _ hp) (fun p hp => List.mem_append_right _ hp) (fun p hp => .inl hp) (I.bound (v := v) (hs' := c.hs.set a.toNat v) hu hl hn (List.length_set) htl) of ?_ ?_
  · intro p hp
    rcases List.mem_cons.mp hp with rfl | hp
    · exact hb
    · rcases List.mem_cons.mp hp with rfl | hp
      · exact ht.trans (by rw [htn])
      · exact nomatch hp
  · exact fun z h1 h2 h3 => hr z h1 (h2 _ (.head _)) (h2 _ (.tail _ (.head _))) h3
theorem way3 {ea' : List DictEntry} {na' kk' : Nat} {cp' : Int} {u u2' : Tok} {vals : List Value} (I : Inv w S CD HL KL TR i c) (of : Offs AD SD HL KL TR PL KP LL UR c.xs) (hoff : OwnOff own ((Led A AD S SD HL KL TR CD C1 C2 PL KP LL UR UL CE c1a c1b c2a c2b c1t c2t kc ku0 us oc c).map (·.1))) (hu : 0 ≤ x ∧ 0 ≤ z ∧ z ≤ 100) (F : Fr h₀ L h' m')
    (N : News h₀ L h' ((A, instObj 541 AD) :: (AD, dictOf ea' na') :: (S, instObj 381 SD) :: (SD, dictOf c.es c.ns) :: (HL, listOf (c.hs).toArray c.kh) :: (KL, listOf ((putSeq c.ks (topV c.e c.b cp' c.cnt) vals)).toArray kk') :: (TR, listOf (c.ts).toArray c.kt) :: (CD, listOf ([.ref C1, .ref C2] : List Value).toArray kc) :: (C1, codeTup c1a c1b 2 c1t) :: (C2, codeTup c2a c2b 1 c2t) :: ((PL, listOf c.ps.toArray c.kp) :: (KP, c.ok) :: (LL, listOf c.ls.toArray c.kl) :: (UR, listOf ([.int x tx, .ref UL, .int z tz] : List Value).toArray ku) :: (UL, listOf us.toArray ku0) :: (CE, oc) :: (c.xs ++ own))))
    (hcp : cp' = 1 ∨ cp' = 2) (hA : AIs ea' S CD cp' (topV c.e c.b cp' c.cnt) c.b c.b0 u u2' c.u3 c.u4) (hv : vals.length = 4)
    (hb : m' (Str.ofString "bound") = some (.int c.hb c.tb)) (ht : m' (Str.ofString "trailed") = some (.int (c.ts.length : Int) c.tt)) (hr : ∀ z, z ≠ y → z ≠ Str.ofString "bound" → z ≠ Str.ofString "trailed" → stn.contains z = false → m' z = m₀ z) :
    EndOK A AD S SD HL KL TR CD C1 C2 PL KP LL UR UL CE c1a c1b c2a c2b c1t c2t kc ku0 us oc w i h₀ L y stn m₀ own s₁ { s₁ with heap := h', toks := tk } := by
  have I1 := I.setcp (ea' := putL (Str.ofString "cp") 0 (.str (Str.ofString "cp") 0) (.int cp' u) c.ea) (na' := 0) (u := u) hcp (AIs.set_cp I.hA)
  have I2 := I1.urn (x := x) (z := z) (tx := tx) (tz := tz) (ku := ku) hu
  have I3 := I2.env (ea' := ea') (na' := na') (kk' := kk') (u := u2') (vals := vals) hv hA
  refine turn_end (c := c) (c' := { c with ea := ea', na := na', cp := cp', u1 := u, e := topV c.e c.b cp' c.cnt, u2 := u2', ks := putSeq c.ks (topV c.e c.b cp' c.cnt) vals, kk := kk', x := x, z := z, tx := tx, tz := tz, ku := ku }) F N hoff (fun p hp => List.mem_append_left _ hp) (fun p hp => List.mem_append_right _ hp) (fun p hp => .inl hp) I3 of ?_ ?_
  · intro p hp
    rcases List.mem_cons.mp hp with rfl | hp
    · exact hb
    · rcases List.mem_cons.mp hp with rfl | hp
      · exact ht
      · exact nomatch hp
  · exact fun z h1 h2 h3 => hr z h1 (h2 _ (.head _)) (h2 _ (.tail _ (.head _))) h3
theorem way4 {ea' : List DictEntry} {na' : Nat} {u : Tok} {b0' : Int} (I : Inv w S CD HL KL TR i c) (of : Offs AD SD HL KL TR PL KP LL UR c.xs) (hoff : OwnOff own ((Led A AD S SD HL KL TR CD C1 C2 PL KP LL UR UL CE c1a c1b c2a c2b c1t c2t kc ku0 us oc c).map (·.1))) (hu : 0 ≤ x ∧ 0 ≤ z ∧ z ≤ 100) (F : Fr h₀ L h' m')
    (N : News h₀ L h' ((A, instObj 541 AD) :: (AD, dictOf ea' na') :: (S, instObj 381 SD) :: (SD, dictOf c.es c.ns) :: (HL, listOf (c.hs).toArray c.kh) :: (KL, listOf (c.ks).toArray c.kk) :: (TR, listOf (c.ts).toArray c.kt) :: (CD, listOf ([.ref C1, .ref C2] : List Value).toArray kc) :: (C1, codeTup c1a c1b 2 c1t) :: (C2, codeTup c2a c2b 1 c2t) :: ((PL, listOf c.ps.toArray c.kp) :: (KP, c.ok) :: (LL, listOf c.ls.toArray c.kl) :: (UR, listOf ([.int x tx, .ref UL, .int z tz] : List Value).toArray ku) :: (UL, listOf us.toArray ku0) :: (CE, oc) :: (c.xs ++ own))))
    (hA : AIs ea' S CD c.cp c.e c.b b0' c.u1 c.u2 c.u3 u)
    (hb : m' (Str.ofString "bound") = some (.int c.hb c.tb)) (ht : m' (Str.ofString "trailed") = some (.int (c.ts.length : Int) c.tt)) (hr : ∀ z, z ≠ y → z ≠ Str.ofString "bound" → z ≠ Str.ofString "trailed" → stn.contains z = false → m' z = m₀ z) :
    EndOK A AD S SD HL KL TR CD C1 C2 PL KP LL UR UL CE c1a c1b c2a c2b c1t c2t kc ku0 us oc w i h₀ L y stn m₀ own s₁ { s₁ with heap := h', toks := tk } := by
  refine turn_end (c := c) (c' := { c with ea := ea', na := na', b0 := b0', u4 := u, x := x, z := z, tx := tx, tz := tz, ku := ku }) F N hoff (fun p hp => List.mem_append_left _ hp) (fun p hp => List.mem_append_right _ hp) (fun p hp => .inl hp) (I.barrier hu hA) of ?_ ?_
  · intro p hp
    rcases List.mem_cons.mp hp with rfl | hp
    · exact hb
    · rcases List.mem_cons.mp hp with rfl | hp
      · exact ht
      · exact nomatch hp
  · exact fun z h1 h2 h3 => hr z h1 (h2 _ (.head _)) (h2 _ (.tail _ (.head _))) h3
theorem way0 {ea' es' : List DictEntry} {na' ns' kk' kp' kg ke T9 G En : Nat} {o : Int} {ot t1 t2 t3 tb' u3' v1' v2' u9 : Tok} {gs evs : List Value} {ok' : Obj} (I : Inv w S CD HL KL TR i c) (of : Offs AD SD HL KL TR PL KP LL UR c.xs) (hoff : OwnOff own ((Led A AD S SD HL KL TR CD C1 C2 PL KP LL UR UL CE c1a c1b c2a c2b c1t c2t kc ku0 us oc c).map (·.1))) (hu : 0 ≤ x ∧ 0 ≤ z ∧ z ≤ 100) (F : Fr h₀ L h' m') (N : News h₀ L h' ((T9, ({ cls := .type "tuple", data := .seq ([.ref G, .ref En] : List Value).toArray 0 } : Obj)) :: ((A, instObj 541 AD) :: (AD, dictOf ea' na') :: (S, instObj 381 SD) :: (SD, dictOf es' ns') :: (HL, listOf (c.hs).toArray c.kh) :: (KL, listOf ((putSeq c.ks (topV c.e c.b c.cp c.cnt) (.int (gs.length : Int) t1 :: (gs ++ [.int c.e c.u2, .int c.cp c.u1, .int c.b c.u3, .int o ot, .int (c.ts.length : Int) t2, .int (c.hs.length : Int) t3, .int c.b0 c.u4])))).toArray kk') :: (TR, listOf (c.ts).toArray c.kt) :: (CD, listOf ([.ref C1, .ref C2] : List Value).toArray kc) :: (C1, codeTup c1a c1b 2 c1t) :: (C2, codeTup c2a c2b 1 c2t) :: ((PL, listOf (c.ps ++ [Value.int (topV c.e c.b c.cp c.cnt) u9]).toArray kp') :: (KP, ok') :: (LL, listOf c.ls.toArray c.kl) :: (UR, listOf ([.int x tx, .ref UL, .int z tz] : List Value).toArray ku) :: (UL, listOf us.toArray ku0) :: (CE, oc) :: (En, listOf evs.toArray ke) :: (G, listOf gs.toArray kg) :: (c.xs ++ own)))))
    (hi : i ≤ 9) (hg2 : gs.length ≤ 2) (hG : (@Ne Nat AD G) ∧ (@Ne Nat SD G) ∧ (@Ne Nat HL G) ∧ (@Ne Nat KL G) ∧ (@Ne Nat TR G) ∧ (@Ne Nat PL G) ∧ (@Ne Nat KP G) ∧ (@Ne Nat LL G) ∧ (@Ne Nat UR G) ∧ ∀ p : Addr × Obj, p ∈ c.xs ++ own → p.1 ≠ G) (hE : LL < En ∧ ∀ p : Addr × Obj, p ∈ c.xs ++ own → @LT.lt Nat _ p.1 En) (hT : LL < T9 ∧ ∀ p : Addr × Obj, p ∈ c.xs ++ own → @LT.lt Nat _ p.1 T9) (hord : Ords A AD S SD HL KL TR CD C1 C2 PL KP LL UR UL CE)
    (ei : IntsAre evs [c.e, c.cp, c.b, o, (c.ts.length : Int), (c.hs.length : Int), c.b0]) (hd : ok'.IsDictOf (PySem.intKind PySem.Challenge.rw_rh0105_01.row.prog w) (stored c.kvs (topV c.e c.b c.cp c.cnt) (.ref T9)))
    (hA : AIs ea' S CD c.cp c.e (topV c.e c.b c.cp c.cnt) c.b0 c.u1 c.u2 u3' c.u4) (hS : SIs es' HL KL TR (c.hs.length : Int) (topV c.e c.b c.cp c.cnt) v1' v2' c.v3)
    (hb : m' (Str.ofString "bound") = some (.int (c.hs.length : Int) tb')) (ht : m' (Str.ofString "trailed") = some (.int (c.ts.length : Int) c.tt)) (hr : ∀ z, z ≠ y → z ≠ Str.ofString "bound" → z ≠ Str.ofString "trailed" → stn.contains z = false → m' z = m₀ z) :
    EndOK A AD S SD HL KL TR CD C1 C2 PL KP LL UR UL CE c1a c1b c2a c2b c1t c2t kc ku0 us oc w i h₀ L y stn m₀ own s₁ { s₁ with heap := h', toks := tk } := by
  have I1 := I.urn (x := x) (z := z) (tx := tx) (tz := tz) (ku := ku) hu
  have I2 := I1.push (ea' := ea') (es' := es') (na' := na') (ns' := ns') (kk' := kk') (kp' := kp') (kg := kg) (ke := ke) (T9 := T9) (G := G) (En := En) (o := o) (ot := ot) (t1 := t1) (t2 := t2) (t3 := t3) (tb' := tb') (u3' := u3') (v1' := v1') (v2' := v2') (u9 := u9) (gs := gs) (evs := evs) (ok' := ok')
    (xs' := (T9, ({ cls := .type "tuple", data := .seq ([.ref G, .ref En] : List Value).toArray 0 } : Obj)) :: (En, listOf evs.toArray ke) :: (G, listOf gs.toArray kg) :: c.xs) hA hS hi hg2 (fun p hp => .tail _ (.tail _ (.tail _ hp))) (.head _) (.tail _ (.tail _ (.head _))) (.tail _ (.head _)) ei hd
  obtain ⟨q0, q1, q2, q3, q4, q5, q6, q7, q8, q9, q10, q11, q12, q13, q14⟩ := hord
  have e : ∀ {a b : Nat} {z : Obj}, a ≠ b → (a, z).1 ≠ b := fun h => h
  obtain ⟨g1, g2, g3, g4, g5, g6, g7, g8, g9, hG⟩ := hG
  have e3 : ∀ {d : Nat}, d ≤ LL → d ≠ G → (∀ p ∈ c.xs, p.1 ≠ d) → ∀ p ∈ (T9, ({ cls := .type "tuple", data := .seq ([.ref G, .ref En] : List Value).toArray 0 } : Obj)) :: (En, listOf evs.toArray ke) :: (G, listOf gs.toArray kg) :: c.xs, p.1 ≠ d := fun hd hg hx =>
    List.forall_mem_cons.mpr ⟨e (by have := hT.1; omega), List.forall_mem_cons.mpr ⟨e (by have := hE.1; omega), List.forall_mem_cons.mpr ⟨e (Ne.symm hg), hx⟩⟩⟩
  refine turn_end (c := c) (rest := (T9, ({ cls := .type "tuple", data := .seq ([.ref G, .ref En] : List Value).toArray 0 } : Obj)) :: (En, listOf evs.toArray ke) :: (G, listOf gs.toArray kg) :: (c.xs ++ own)) F (fun p hp => N p (by simp only [List.mem_cons] at hp ⊢; (rcases hp with hp | hp | hp | hp | hp | hp | hp | hp | hp | hp | hp | hp | hp | hp | hp | hp | hp | hp | hp | hp); all_goals simp only [hp, true_or, or_true])) hoff ?_ (fun p hp => .tail _ (.tail _ (.tail _ (List.mem_append_right _ hp)))) ?_ I2 ⟨e3 (by omega) g1 of.ad, e3 (by omega) g2 of.sd, e3 (by omega) g3 of.hl, e3 (by omega) g4 of.kl, e3 (by omega) g5 of.tr, e3 (by omega) g6 of.pl, e3 (by omega) g7 of.kp, e3 (by omega) g8 of.ll, e3 (by omega) g9 of.ur⟩ ?_ ?_
  · intro p hp
    rcases List.mem_cons.mp hp with rfl | hp
    · exact .head _
    rcases List.mem_cons.mp hp with rfl | hp
    · exact .tail _ (.head _)
    rcases List.mem_cons.mp hp with rfl | hp
    · exact .tail _ (.tail _ (.head _))
    · exact .tail _ (.tail _ (.tail _ (List.mem_append_left _ hp)))
  · intro p hp
    rcases List.mem_cons.mp hp with rfl | hp
    · exact .inr fun q hq h => by have h1 := hT.2 q (List.mem_append_right _ hq); rw [h] at h1; exact absurd (show T9 < T9 from h1) (by omega)
    rcases List.mem_cons.mp hp with rfl | hp
    · exact .inr fun q hq h => by have h1 := hE.2 q (List.mem_append_right _ hq); rw [h] at h1; exact absurd (show En < En from h1) (by omega)
    rcases List.mem_cons.mp hp with rfl | hp
    · exact .inr fun q hq => hG q (List.mem_append_right _ hq)
    · exact .inl hp
  · intro p hp
    rcases List.mem_cons.mp hp with rfl | hp
    · exact hb
    · rcases List.mem_cons.mp hp with rfl | hp
      · exact ht
      · exact nomatch hp
  · exact fun z h1 h2 h3 => hr z h1 (h2 _ (.head _)) (h2 _ (.tail _ (.head _))) h3
end

end
section
def BOK (c : St) (b hb bb : Int) : Prop := (b = -1 ∧ hb = 0 ∧ bb = 0) ∨ (b ∈ c.pn ∧ bb = b ∧ KeptX c.xs c.kvs c.ks b hb (c.b + c.cnt))
section
variable {w : World} {S CD HL KL TR i : Nat} {c : St}
theorem Inv.bok (I : Inv w S CD HL KL TR i c) : BOK c c.b c.hb c.bb := by
  rcases I.ch.head with ⟨hb, _⟩ | ⟨hb, r, e⟩
  · have h1 := I.bn hb
    have h2 := I.b1
    exact .inl ⟨by omega, h1.1, h1.2⟩
  · have hm : c.b ∈ c.pn := List.mem_reverse.mp (by rw [e]; exact .head _)
    obtain ⟨_, _, hb', k, he⟩ := I.ke c.b hm
    refine .inr ⟨hm, I.bp hb, ?_⟩
    have := he rfl
    subst this
    exact k
theorem Inv.at (I : Inv w S CD HL KL TR i c) {x : Int} (hx : x ∈ -1 :: c.pn) : ∃ (cnt : Int) (ct : Tok) (hv : Int) (ht : Tok), (0 ≤ x → c.ks[x.toNat]? = some (.int cnt ct)) ∧ (0 ≤ x → c.ks[(x + cnt + 6).toNat]? = some (.int hv ht)) ∧ (0 ≤ x → 0 ≤ cnt ∧ cnt ≤ 2) ∧ (0 ≤ x → x ∈ c.pn ∧ KeptX c.xs c.kvs c.ks x hv (c.b + c.cnt)) ∧ x ≤ c.b ∧ -1 ≤ x := by
  have hb1 := I.b1
  rcases List.mem_cons.mp hx with rfl | hx
  · exact ⟨0, 0, 0, 0, fun h => absurd h (by decide), fun h => absurd h (by decide), fun h => absurd h (by decide), fun h => absurd h (by decide), hb1, Int.le_refl _⟩
  · obtain ⟨h0, h1, hb', k, _⟩ := I.ke x hx
    obtain ⟨T9, G, En, kg, ke, evs, gs, e7, cnt, ct, k, hle⟩ := id k
    obtain ⟨t, ht⟩ := k.pt 6 (by omega) (by omega)
    have h5 : e7.getD (6 - 1 : Int).toNat 0 = hb' := by
      rw [List.getD_eq_getElem?_getD]; show (e7[5]?).getD 0 = hb'; rw [k.e5]; rfl
    rw [h5] at ht
    have hg := k.g2
    have hc := k.cg
    exact ⟨cnt, ct, hb', t, fun _ => k.c0, fun _ => ht, fun _ => by omega, fun _ => ⟨hx, T9, G, En, kg, ke, evs, gs, e7, cnt, ct, k, hle⟩, h1, by omega⟩
theorem bok_cut {b hb bb b' hb' bb' x hv : Int} (B : BOK c b hb bb) (hm : -1 ≤ x) (hk : 0 ≤ x → x ∈ c.pn ∧ KeptX c.xs c.kvs c.ks x hv (c.b + c.cnt)) (h : b ≤ x ∧ b' = b ∧ hb' = hb ∧ bb' = bb ∨ x < b ∧ b' = x ∧ (x < 0 ∧ hb' = 0 ∧ bb' = 0 ∨ 0 ≤ x ∧ hb' = hv ∧ bb' = x)) : BOK c b' hb' bb' ∧ b' = min b x := by
  rcases h with ⟨h1, rfl, rfl, rfl⟩ | ⟨h1, rfl, h2⟩
  · exact ⟨B, by omega⟩
  · refine ⟨?_, by omega⟩
    rcases h2 with ⟨h3, rfl, rfl⟩ | ⟨h3, rfl, rfl⟩
    · exact .inl ⟨by omega, rfl, rfl⟩
    · exact .inr ⟨(hk h3).1, rfl, (hk h3).2⟩
theorem bok_set {hb' bb' x hv : Int} (hm : -1 ≤ x) (hk : 0 ≤ x → x ∈ c.pn ∧ KeptX c.xs c.kvs c.ks x hv (c.b + c.cnt)) (h : x < 0 ∧ hb' = 0 ∧ bb' = 0 ∨ 0 ≤ x ∧ hb' = hv ∧ bb' = x) : BOK c x hb' bb' := by
  rcases h with ⟨h3, rfl, rfl⟩ | ⟨h3, rfl, rfl⟩
  · exact .inl ⟨by omega, rfl, rfl⟩
  · exact .inr ⟨(hk h3).1, rfl, (hk h3).2⟩
theorem Inv.chainAt (I : Inv w S CD HL KL TR i c) {x : Int} (hx : x ∈ -1 :: c.pn) : Chain c.ks x ((c.pn.filter fun y => decide (y ≤ x)).reverse) := by
  rcases List.mem_cons.mp hx with rfl | hx
  · have : (c.pn.filter fun y => decide (y ≤ -1)) = [] := List.filter_eq_nil_iff.mpr fun y hy => by
      have := (I.ke y hy).1
      simp; omega
    rw [this]
    exact .nil (by decide)
  · rw [← List.filter_reverse]
    refine Chain.suffix I.ch ?_ (List.mem_reverse.mpr hx)
    rw [List.pairwise_reverse]
    exact I.up
theorem Inv.bm (I : Inv w S CD HL KL TR i c) : c.b ∈ -1 :: c.pn := by
  rcases I.ch.head with ⟨hb, _⟩ | ⟨hb, r, e⟩
  · have := I.b1
    rw [show c.b = -1 by omega]
    exact .head _
  · exact .tail _ (List.mem_reverse.mp (by rw [e]; exact .head _))
theorem Inv.le_b (I : Inv w S CD HL KL TR i c) {x : Int} (hx : x ∈ -1 :: c.pn) : x ≤ c.b ∧ -1 ≤ x := by
  obtain ⟨_, _, _, _, _, _, _, _, h1, h2⟩ := I.at hx
  exact ⟨h1, h2⟩
theorem Inv.marks (I : Inv w S CD HL KL TR i c) {t0 : Tok} : ∃ t, (Value.int (-1) t0 :: c.ps)[(Value.int (-1) t0 :: c.ps).length - 1]? = some (.int c.b t) := by
  rcases I.ch.head with ⟨hb, e⟩ | ⟨hb, r, e⟩
  · have : c.pn = [] := by have := congrArg List.length e; rw [List.length_reverse] at this; exact List.eq_nil_of_length_eq_zero this
    have hl := I.pi.length
    rw [this] at hl
    have hp : c.ps = [] := List.eq_nil_of_length_eq_zero hl
    have := I.b1
    rw [hp, show c.b = -1 by omega]
    exact ⟨t0, rfl⟩
  · obtain ⟨t, ht⟩ := ints_last I.pi e
    have hl : c.ps.length ≠ 0 := fun h => by
      rw [List.eq_nil_of_length_eq_zero h] at ht
      cases ht
    refine ⟨t, ?_⟩
    rw [List.length_cons, show c.ps.length + 1 - 1 = (c.ps.length - 1) + 1 by omega, List.getElem?_cons_succ]
    exact ht
theorem bok_neg {b hb bb : Int} (I : Inv w S CD HL KL TR i c) (B : BOK c b hb bb) : b < 0 → hb = 0 ∧ bb = 0 := fun h => by
  rcases B with ⟨_, h1⟩ | ⟨h1, _⟩
  · exact h1
  · have := (I.ke b h1).1; omega
theorem bok_pos {b hb bb : Int} {tl : List (Addr × Obj)} (B : BOK c b hb bb) (hs : ∀ p ∈ c.xs, p ∈ tl) : 0 ≤ b → bb = b ∧ ∃ T9 G En kg ke evs gs e7 cnt ct, KeptAt tl c.kvs c.ks b hb T9 G En kg ke evs gs e7 cnt ct := fun h => by
  rcases B with ⟨h1, _⟩ | ⟨_, h1, k⟩
  · omega
  · obtain ⟨T9, G, En, kg, ke, evs, gs, e7, cnt, ct, k, _⟩ := k
    exact ⟨h1, T9, G, En, kg, ke, evs, gs, e7, cnt, ct, k.mono hs⟩
end
section
variable {prog : Program} {w : World} {A : Around} {E : Value → Shared → Prop} {s : Shared} {h₀ : Heap} {L D : Addr} {news : List (Addr × Obj)} {its : List Value} {ns : List Int} {n : Nat}
theorem m_some {value slice : Expr} {k : Int} {u : Tok} {Q : Value → Shared → Prop} (N : News h₀ L s.heap news) (hm : (D, listOf its.toArray n) ∈ news) (hi : IntsAre its ns) (h0 : 0 ≤ k) (h1 : k < (its.length : Int)) (hz : its.length ≤ 1000) (h : ∀ x t, x ∈ ns → Q (.int x t) s)
    (hs : subscripted slice false (.ref D) (.int k u) = operate [.ref D, .int k u] (getItem (.ref D) (.int k u)) := by with_unfolding_all rfl) :
    wpAny (model prog w) A (subscriptTail value slice (.ref D) (.int k u)) Q E s := by
  have hl := hi.length
  have hlt : k.toNat < ns.length := by omega
  obtain ⟨t, ht⟩ := hi.get k.toNat ns[k.toNat] (List.getElem?_eq_getElem hlt)
  exact kba_turn (value' := PySem.Expr.Name (PySem.Str.ofString "_") ⟨0, 0, 0, 0⟩) (fun _ => rfl) (m_item N hm h0 (by omega) ht (h _ t (List.getElem_mem hlt)) hs (fun _ => rfl))
theorem m_copy {m : Str → Option Value} {Q : Value → Shared → Prop} (F : Fr h₀ L s.heap m) (N : News h₀ L s.heap news) (hm : (D, listOf its.toArray n) ∈ news) (hz : its.length ≤ 1000)
    (h : ∀ (B : Nat) k h', Fr h₀ L h' m → News h₀ L h' ((B, listOf its.toArray k) :: news) → (∀ q ∈ news, q.1 < B) → Q (.ref B) { s with heap := h' }) : wpAny (model prog w) A (call (.type "list") [.ref D]) Q E s :=
  PySem.W.kup_listOf (zs := its) F N hm (by simp) h (by simp only [List.toList_toArray]; rw [sizeLine_eq]; omega)
theorem m_cat {m : Str → Option Value} {D2 : Nat} {its2 : List Value} {n2 : Nat} {Q : Value → Shared → Prop} (F : Fr h₀ L s.heap m) (N : News h₀ L s.heap news) (hm : (D, listOf its.toArray n) ∈ news) (hm2 : (D2, listOf its2.toArray n2) ∈ news) (hz : its.length + its2.length ≤ 1000)
    (h : ∀ (B : Nat) h', Fr h₀ L h' m → News h₀ L h' ((B, listOf (its ++ its2).toArray 0) :: news) → (∀ q ∈ news, q.1 < B) → Q (.ref B) { s with heap := h' }) : wpAny (model prog w) A (binaryOp .Add (.ref D) (.ref D2)) Q E s :=
  PySem.W.kmk_add_lit F N (m_isList N hm) (m_isList N hm2) (by simp) h (by simp only [List.size_toArray]; rw [sizeLine_eq]; omega)
end
theorem news_tail {h₀ h : Heap} {L : Addr} {x : Addr × Obj} {l : List (Addr × Obj)} (N : News h₀ L h (x :: l)) : News h₀ L h l := fun p hp => N p (.tail _ hp)

end
section
structure Cu where
  (ea es : List DictEntry) (na ns : Nat) (b hb bb : Int) (u3 v1 v2 : Tok)
structure CuOK (S CD HL KL TR : Nat) (c : St) (d : Cu) : Prop where
  hA : AIs d.ea S CD c.cp c.e d.b c.b0 c.u1 c.u2 d.u3 c.u4
  hS : SIs d.es HL KL TR d.hb d.bb d.v1 d.v2 c.v3
  bo : BOK c d.b d.hb d.bb
section
variable {A AD S SD HL KL TR CD C1 C2 PL KP : Nat} {c1a c1b c2a c2b : Value} {c1t c2t : Tok} {kc : Nat} {c : St}
def LedE (A AD S SD HL KL TR CD C1 C2 PL KP : Nat) (c1a c1b c2a c2b : Value) (c1t c2t : Tok) (kc : Nat) (c : St) (X : List (Addr × Obj)) (d : Cu) : List (Addr × Obj) := ((A, instObj 541 AD) :: (AD, dictOf d.ea d.na) :: (S, instObj 381 SD) :: (SD, dictOf d.es d.ns) :: (HL, listOf (c.hs).toArray c.kh) :: (KL, listOf (c.ks).toArray c.kk) :: (TR, listOf (c.ts).toArray c.kt) :: (CD, listOf ([.ref C1, .ref C2] : List Value).toArray kc) :: (C1, codeTup c1a c1b 2 c1t) :: (C2, codeTup c2a c2b 1 c2t) :: ((PL, listOf c.ps.toArray c.kp) :: (KP, c.ok) :: X))
theorem offE {X own : List (Addr × Obj)} {d : Cu} (h : Off AD SD HL KL TR ((PL, listOf c.ps.toArray c.kp) :: (KP, c.ok) :: X)) (ho : OwnOff own ((LedE A AD S SD HL KL TR CD C1 C2 PL KP c1a c1b c2a c2b c1t c2t kc c X d).map (·.1))) : Off AD SD HL KL TR ((PL, listOf c.ps.toArray c.kp) :: (KP, c.ok) :: (X ++ own)) := by
  obtain ⟨h1, h2, h3, h4, h5⟩ := h
  have k : ∀ {a : Nat}, (a ∈ (LedE A AD S SD HL KL TR CD C1 C2 PL KP c1a c1b c2a c2b c1t c2t kc c X d).map (·.1)) → (∀ p ∈ (PL, listOf c.ps.toArray c.kp) :: (KP, c.ok) :: X, p.1 ≠ a) → ∀ p ∈ (PL, listOf c.ps.toArray c.kp) :: (KP, c.ok) :: (X ++ own), p.1 ≠ a := fun ha hx p hp => by
    rcases List.mem_cons.mp hp with rfl | hp
    · exact hx _ (.head _)
    · rcases List.mem_cons.mp hp with rfl | hp
      · exact hx _ (.tail _ (.head _))
      · rcases List.mem_append.mp hp with hp | hp
        · exact hx _ (.tail _ (.tail _ hp))
        · exact ho p hp _ ha
  unfold LedE at k
  simp only [List.map_cons] at k
  exact ⟨k (by simp) h1, k (by simp) h2, k (by simp) h3, k (by simp) h4, k (by simp) h5⟩
theorem ledE_app {X own : List (Addr × Obj)} {d : Cu} : LedE A AD S SD HL KL TR CD C1 C2 PL KP c1a c1b c2a c2b c1t c2t kc c X d ++ own = LedE A AD S SD HL KL TR CD C1 C2 PL KP c1a c1b c2a c2b c1t c2t kc c (X ++ own) d := rfl
variable {prog : Program} {w : World} {Ar : Around} {E : Value → Shared → Prop} {s : Shared} {env : Env} {h₀ : Heap} {y : Str} {body : List Stmt} {Q : Flow → Shared → Prop} {m₀ : Str → Option Value}
theorem cu_end {stn : List Str} {d d0 : Cu} {l : Nat} {ob : Obj} {P : Cu → Prop} {X own : List (Addr × Obj)} {h' : Heap} {L : Addr} {m' : Str → Option Value} {s₁ : Shared} {tk : Nat} (hl : (l, ob) ∈ X) (F : Fr h₀ L h' m') (N : News h₀ L h' ((A, instObj 541 AD) :: (AD, dictOf d.ea d.na) :: (S, instObj 381 SD) :: (SD, dictOf d.es d.ns) :: (HL, listOf (c.hs).toArray c.kh) :: (KL, listOf (c.ks).toArray c.kk) :: (TR, listOf (c.ts).toArray c.kt) :: (CD, listOf ([.ref C1, .ref C2] : List Value).toArray kc) :: (C1, codeTup c1a c1b 2 c1t) :: (C2, codeTup c2a c2b 1 c2t) :: ((PL, listOf c.ps.toArray c.kp) :: (KP, c.ok) :: (X ++ own)))) (ho : OwnOff own ((LedE A AD S SD HL KL TR CD C1 C2 PL KP c1a c1b c2a c2b c1t c2t kc c X d0).map (·.1))) (hP : P d) (hr : ∀ z, z ≠ y → stn.contains z = false → m' z = m₀ z) :
    InvEndG h₀ L (fun m' nx => (l, ob) ∈ nx ∧ LS (LedE A AD S SD HL KL TR CD C1 C2 PL KP c1a c1b c2a c2b c1t c2t kc c X) (fun _ => []) y stn m₀ P m' nx) own s₁ { s₁ with heap := h', toks := tk } := by
  refine ls_end (Z := fun nx => (l, ob) ∈ nx) d F N ?_ ?_ ?_ hP (fun p hp => nomatch hp) (fun z h1 _ h3 => hr z h1 h3) ?_
  · intro p hp
    unfold LedE at hp
    simp only [List.mem_cons, List.mem_append] at hp ⊢
    rcases hp with hp | hp | hp | hp | hp | hp | hp | hp | hp | hp | hp | hp | hp
    all_goals simp only [hp, true_or, or_true]
  · intro p hp
    simp only [List.mem_cons, List.mem_append, hp, or_true]
  · intro p hp b hb
    refine ho p hp b ?_
    unfold LedE at hb ⊢
    exact hb
  · show (l, ob) ∈ LedE A AD S SD HL KL TR CD C1 C2 PL KP c1a c1b c2a c2b c1t c2t kc c X d
    unfold LedE
    simp only [List.mem_cons, hl, or_true]
theorem law_cut1 {K kk i : Nat} {ks : List Value} {kn : List Int} {X : List (Addr × Obj)} {d : Cu} {older : Int} (hh : Ar.handled = none) (I : Inv w S CD HL KL TR i c) (F : Fr h₀ env.locals s.heap m₀) (N : News h₀ env.locals s.heap ((A, instObj 541 AD) :: (AD, dictOf d.ea d.na) :: (S, instObj 381 SD) :: (SD, dictOf d.es d.ns) :: (HL, listOf (c.hs).toArray c.kh) :: (KL, listOf (c.ks).toArray c.kk) :: (TR, listOf (c.ts).toArray c.kt) :: (CD, listOf ([.ref C1, .ref C2] : List Value).toArray kc) :: (C1, codeTup c1a c1b 2 c1t) :: (C2, codeTup c2a c2b 1 c2t) :: ((PL, listOf c.ps.toArray c.kp) :: (KP, c.ok) :: X)))
    (hK : (K, listOf ks.toArray kk) ∈ X) (hI : IntsAre ks kn) (hk : ∀ x ∈ kn, x ∈ -1 :: c.pn) (hf : kn.foldl min c.b = older) (C0 : CuOK S CD HL KL TR c d) (hb : d.b = c.b) (hO : Off AD SD HL KL TR ((PL, listOf c.ps.toArray c.kp) :: (KP, c.ok) :: X))
    (turn : ∀ (x : Int) (t : Tok) (d0 : Cu) (u : Str → Option Value) h tk own cnt ct hv ht (Q' : Flow → Shared → Prop), CuOK S CD HL KL TR c d0 → Off AD SD HL KL TR ((PL, listOf c.ps.toArray c.kp) :: (KP, c.ok) :: (X ++ own)) → x ≤ c.b → -1 ≤ x → (0 ≤ x → c.ks[x.toNat]? = some (.int cnt ct)) → (0 ≤ x → c.ks[(x + cnt + 6).toNat]? = some (.int hv ht)) → (0 ≤ x → 0 ≤ cnt ∧ cnt ≤ 2) →
      Fr h₀ env.locals h (fun q => if q = y then some (.int x t) else kstB (fun z => if ([] : List Str).contains z then u z else m₀ z) [] q) → News h₀ env.locals h ((A, instObj 541 AD) :: (AD, dictOf d0.ea d0.na) :: (S, instObj 381 SD) :: (SD, dictOf d0.es d0.ns) :: (HL, listOf (c.hs).toArray c.kh) :: (KL, listOf (c.ks).toArray c.kk) :: (TR, listOf (c.ts).toArray c.kt) :: (CD, listOf ([.ref C1, .ref C2] : List Value).toArray kc) :: (C1, codeTup c1a c1b 2 c1t) :: (C2, codeTup c2a c2b 1 c2t) :: ((PL, listOf c.ps.toArray c.kp) :: (KP, c.ok) :: (X ++ own))) →
      (∀ h' tk' ea' es' na' ns' b' hb' bb' t1 t2 t3, Fr h₀ env.locals h' (fun q => if q = y then some (.int x t) else kstB (fun z => if ([] : List Str).contains z then u z else m₀ z) [] q) → News h₀ env.locals h' ((A, instObj 541 AD) :: (AD, dictOf ea' na') :: (S, instObj 381 SD) :: (SD, dictOf es' ns') :: (HL, listOf (c.hs).toArray c.kh) :: (KL, listOf (c.ks).toArray c.kk) :: (TR, listOf (c.ts).toArray c.kt) :: (CD, listOf ([.ref C1, .ref C2] : List Value).toArray kc) :: (C1, codeTup c1a c1b 2 c1t) :: (C2, codeTup c2a c2b 1 c2t) :: ((PL, listOf c.ps.toArray c.kp) :: (KP, c.ok) :: (X ++ own))) → AIs ea' S CD c.cp c.e b' c.b0 c.u1 c.u2 t1 c.u4 → SIs es' HL KL TR hb' bb' t2 t3 c.v3 → (d0.b ≤ x ∧ b' = d0.b ∧ hb' = d0.hb ∧ bb' = d0.bb ∨ x < d0.b ∧ b' = x ∧ (x < 0 ∧ hb' = 0 ∧ bb' = 0 ∨ 0 ≤ x ∧ hb' = hv ∧ bb' = x)) → Q' .next { s with heap := h', toks := tk' }) →
      wpAny (model prog w) Ar (execs body env) Q' E { s with heap := h, toks := tk })
    (done : ∀ (d : Cu) (u : Str → Option Value) h tk, CuOK S CD HL KL TR c d → d.b = older → Fr h₀ env.locals h (fun q => if q = y then u q else kstB (fun z => if ([] : List Str).contains z then u z else m₀ z) [] q) → News h₀ env.locals h ((A, instObj 541 AD) :: (AD, dictOf d.ea d.na) :: (S, instObj 381 SD) :: (SD, dictOf d.es d.ns) :: (HL, listOf (c.hs).toArray c.kh) :: (KL, listOf (c.ks).toArray c.kk) :: (TR, listOf (c.ts).toArray c.kt) :: (CD, listOf ([.ref C1, .ref C2] : List Value).toArray kc) :: (C1, codeTup c1a c1b 2 c1t) :: (C2, codeTup c2a c2b 1 c2t) :: ((PL, listOf c.ps.toArray c.kp) :: (KP, c.ok) :: X)) → Q .next { s with heap := h, toks := tk }) :
    wpAny (model prog w) Ar (pyIter (.ref K)) (fun it s₂ => LoopAtV prog w Ar h₀ env y body Q E it s₂) E s := by
  have hkl := hI.length
  refine my_list (σ := Cu) (vs := ks) (nn := kk) (LedE A AD S SD HL KL TR CD C1 C2 PL KP c1a c1b c2a c2b c1t c2t kc c X) (fun _ => []) [] (fun j d => CuOK S CD HL KL TR c d ∧ d.b = (kn.take j).foldl min c.b) d hh ?hl F N ⟨C0, hb⟩ (fun p hp => nomatch hp) ?turn ?done
  case hl =>
    unfold LedE
    simp only [List.mem_cons, hK, or_true]
  case turn =>
    intro j v d0 u h tk own hv hP ho F9 N9
    have hj : j < kn.length := by rw [← hkl]; exact (List.getElem?_eq_some_iff.mp hv).1
    obtain ⟨t, ht⟩ := hI.get j kn[j] (List.getElem?_eq_getElem hj)
    rw [hv] at ht
    injection ht with ht
    subst ht
    have hx := hk _ (List.getElem_mem hj)
    obtain ⟨cnt, ct, hv', ht', a1, a2, a3, a4, a5, a6⟩ := I.at hx
    have hO9 := offE hO ho
    refine turn kn[j] t d0 u h tk own cnt ct hv' ht' _ hP.1 hO9 a5 a6 a1 a2 a3 F9 N9 ?_
    intro h' tk' ea' es' na' ns' b' hb' bb' t1 t2 t3 F' N' hA' hS' hor
    obtain ⟨B', eb⟩ := bok_cut hP.1.bo a6 a4 hor
    show InvEndG _ _ _ _ _ _
    refine cu_end (d := { ea := ea', es := es', na := na', ns := ns', b := b', hb := hb', bb := bb', u3 := t1, v1 := t2, v2 := t3 }) hK F' N' ho ⟨⟨hA', hS', B'⟩, ?_⟩ ?_
    · show b' = (kn.take (j + 1)).foldl min c.b
      rw [List.take_add_one, List.getElem?_eq_getElem hj, Option.toList_some, List.foldl_append, ← hP.2]
      exact eb
    · intro z h1 _
      rw [if_neg h1]
      rfl
  case done =>
    intro d u h tk hP F9 N9
    refine done d u h tk hP.1 ?_ F9 N9
    have e : (kn.take ks.length).foldl min c.b = kn.foldl min c.b := by rw [hkl, List.take_length]
    rw [hP.2, e, hf]
theorem law_cuts {O K1 K2 K3 K4 n5 k1 k2 k3 k4 i : Nat} {one two older : Int} {t1 t2 t3 t4 t5 t6 t7 : Tok} {X : List (Addr × Obj)} {news : List (Addr × Obj)} (hh : Ar.handled = none) (I : Inv w S CD HL KL TR i c) (F : Fr h₀ env.locals s.heap m₀) (N : News h₀ env.locals s.heap news) (hsub : ∀ p ∈ ((A, instObj 541 AD) :: (AD, dictOf c.ea c.na) :: (S, instObj 381 SD) :: (SD, dictOf c.es c.ns) :: (HL, listOf (c.hs).toArray c.kh) :: (KL, listOf (c.ks).toArray c.kk) :: (TR, listOf (c.ts).toArray c.kt) :: (CD, listOf ([.ref C1, .ref C2] : List Value).toArray kc) :: (C1, codeTup c1a c1b 2 c1t) :: (C2, codeTup c2a c2b 1 c2t) :: ((PL, listOf c.ps.toArray c.kp) :: (KP, c.ok) :: X)), p ∈ news)
    (hO : (O, listOf ([.ref K1, .ref K2, .ref K3, .ref K4] : List Value).toArray n5) ∈ X) (h1 : (K1, listOf ([.int one t1, .int two t2] : List Value).toArray k1) ∈ X) (h2 : (K2, listOf ([.int two t3, .int one t4] : List Value).toArray k2) ∈ X) (h3 : (K3, listOf ([.int older t5] : List Value).toArray k3) ∈ X) (h4 : (K4, listOf ([.int older t6, .int older t7] : List Value).toArray k4) ∈ X)
    (m1 : one ∈ -1 :: c.pn) (m2 : two ∈ -1 :: c.pn) (ho : older = min one two) (hX : Off AD SD HL KL TR ((PL, listOf c.ps.toArray c.kp) :: (KP, c.ok) :: X))
    (turn : ∀ (K kk : Nat) (ks : List Value) (kn : List Int) (d : Cu) (u : Str → Option Value) h tk own (Q' : Flow → Shared → Prop), (K, listOf ks.toArray kk) ∈ X ++ own → IntsAre ks kn → (∀ x ∈ kn, x ∈ -1 :: c.pn) → ks.length ≤ 2 → kn.foldl min c.b = older → older ∈ -1 :: c.pn → CuOK S CD HL KL TR c d → d.b = c.b → Off AD SD HL KL TR ((PL, listOf c.ps.toArray c.kp) :: (KP, c.ok) :: (X ++ own)) →
      Fr h₀ env.locals h (fun q => if q = y then some (.ref K) else kstB (fun z => if [Str.ofString "b"].contains z then u z else m₀ z) [] q) → News h₀ env.locals h ((A, instObj 541 AD) :: (AD, dictOf d.ea d.na) :: (S, instObj 381 SD) :: (SD, dictOf d.es d.ns) :: (HL, listOf (c.hs).toArray c.kh) :: (KL, listOf (c.ks).toArray c.kk) :: (TR, listOf (c.ts).toArray c.kt) :: (CD, listOf ([.ref C1, .ref C2] : List Value).toArray kc) :: (C1, codeTup c1a c1b 2 c1t) :: (C2, codeTup c2a c2b 1 c2t) :: ((PL, listOf c.ps.toArray c.kp) :: (KP, c.ok) :: (X ++ own))) →
      (∀ h' tk' (d' : Cu) m', CuOK S CD HL KL TR c d' → d'.b = c.b → Fr h₀ env.locals h' m' → News h₀ env.locals h' ((A, instObj 541 AD) :: (AD, dictOf d'.ea d'.na) :: (S, instObj 381 SD) :: (SD, dictOf d'.es d'.ns) :: (HL, listOf (c.hs).toArray c.kh) :: (KL, listOf (c.ks).toArray c.kk) :: (TR, listOf (c.ts).toArray c.kt) :: (CD, listOf ([.ref C1, .ref C2] : List Value).toArray kc) :: (C1, codeTup c1a c1b 2 c1t) :: (C2, codeTup c2a c2b 1 c2t) :: ((PL, listOf c.ps.toArray c.kp) :: (KP, c.ok) :: (X ++ own))) → (∀ z, z ≠ y → [Str.ofString "b"].contains z = false → m' z = m₀ z) → Q' .next { s with heap := h', toks := tk' }) →
      wpAny (model prog w) Ar (execs body env) Q' E { s with heap := h, toks := tk })
    (done : ∀ (m' : Str → Option Value) h tk, Fr h₀ env.locals h m' → (∀ b o, h₀.get? b = some o → h.get? b = some o) → Q .next { s with heap := h, toks := tk }) :
    wpAny (model prog w) Ar (pyIter (.ref O)) (fun it s₂ => LoopAtV prog w Ar h₀ env y body Q E it s₂) E s := by
  have l1 := I.le_b m1
  have l2 := I.le_b m2
  have hom : older ∈ -1 :: c.pn := by
    rw [ho]
    rcases Int.le_total one two with h | h
    · rw [Int.min_eq_left h]; exact m1
    · rw [Int.min_eq_right h]; exact m2
  have lo := I.le_b hom
  refine my_list (σ := Cu) (vs := [.ref K1, .ref K2, .ref K3, .ref K4]) (nn := n5) (LedE A AD S SD HL KL TR CD C1 C2 PL KP c1a c1b c2a c2b c1t c2t kc c X) (fun _ => []) [Str.ofString "b"] (fun _ d => CuOK S CD HL KL TR c d ∧ d.b = c.b) { ea := c.ea, es := c.es, na := c.na, ns := c.ns, b := c.b, hb := c.hb, bb := c.bb, u3 := c.u3, v1 := c.v1, v2 := c.v2 } hh ?hl F (fun p hp => N p (hsub p hp)) ⟨⟨I.hA, I.hS, I.bok⟩, rfl⟩ (fun p hp => nomatch hp) ?turn ?done
  case hl =>
    unfold LedE
    simp only [List.mem_cons, hO, or_true]
  case turn =>
    intro j v d u h tk own hv hP hown F9 N9
    have hO9 := offE hX hown
    have fin : ∀ (K kk : Nat) (ks : List Value) (kn : List Int), v = .ref K → (K, listOf ks.toArray kk) ∈ X → IntsAre ks kn → (∀ x ∈ kn, x ∈ -1 :: c.pn) → ks.length ≤ 2 → kn.foldl min c.b = older → _ := fun K kk ks kn e hK hI hk hl hf => by
      subst e
      exact turn K kk ks kn d u h tk own (InvPostG h₀ env.locals (fun m' nx => (O, listOf ([.ref K1, .ref K2, .ref K3, .ref K4] : List Value).toArray n5) ∈ nx ∧ LS (LedE A AD S SD HL KL TR CD C1 C2 PL KP c1a c1b c2a c2b c1t c2t kc c X) (fun _ => []) y [Str.ofString "b"] m₀ (fun d => CuOK S CD HL KL TR c d ∧ d.b = c.b) m' nx) own { s with heap := h, toks := tk } Q) (List.mem_append_left _ hK) hI hk hl hf hom hP.1 hP.2 hO9 F9 N9 fun h' tk' d' m' C' e' F' N' hr => cu_end hO F' N' hown ⟨C', e'⟩ hr
    match j, hv with
    | 0, hv =>
      refine fin K1 k1 _ [one, two] (Option.some.inj hv).symm h1 (.cons _ _ (.cons _ _ .nil)) ?_ (by simp) ?_
      · intro x hx
        rcases List.mem_cons.mp hx with rfl | hx
        · exact m1
        · rw [List.mem_singleton.mp hx]; exact m2
      · show min (min c.b one) two = older
        omega
    | 1, hv =>
      refine fin K2 k2 _ [two, one] (Option.some.inj hv).symm h2 (.cons _ _ (.cons _ _ .nil)) ?_ (by simp) ?_
      · intro x hx
        rcases List.mem_cons.mp hx with rfl | hx
        · exact m2
        · rw [List.mem_singleton.mp hx]; exact m1
      · show min (min c.b two) one = older
        omega
    | 2, hv =>
      refine fin K3 k3 _ [older] (Option.some.inj hv).symm h3 (.cons _ _ .nil) ?_ (by simp) ?_
      · intro x hx
        rw [List.mem_singleton.mp hx]; exact hom
      · show min c.b older = older
        omega
    | 3, hv =>
      refine fin K4 k4 _ [older, older] (Option.some.inj hv).symm h4 (.cons _ _ (.cons _ _ .nil)) ?_ (by simp) ?_
      · intro x hx
        rcases List.mem_cons.mp hx with rfl | hx
        · exact hom
        · rw [List.mem_singleton.mp hx]; exact hom
      · show min (min c.b older) older = older
        omega
    | j + 4, hv => exact nomatch hv
  case done =>
    intro d u h tk _ F9 _
    exact done _ h tk F9 F9.keep
theorem cu_fin {Y : List (Addr × Obj)} {h' : Heap} {L : Addr} {tk : Nat} {ea es : List DictEntry} {na ns : Nat} {hb bb : Int} {u3 v1 v2 : Tok} {m' : Str → Option Value} {Q' : Flow → Shared → Prop} (hA : AIs ea S CD c.cp c.e c.b c.b0 c.u1 c.u2 u3 c.u4) (hS : SIs es HL KL TR hb bb v1 v2 c.v3) (hB : BOK c c.b hb bb) (F : Fr h₀ L h' m') (N : News h₀ L h' ((A, instObj 541 AD) :: (AD, dictOf ea na) :: (S, instObj 381 SD) :: (SD, dictOf es ns) :: (HL, listOf (c.hs).toArray c.kh) :: (KL, listOf (c.ks).toArray c.kk) :: (TR, listOf (c.ts).toArray c.kt) :: (CD, listOf ([.ref C1, .ref C2] : List Value).toArray kc) :: (C1, codeTup c1a c1b 2 c1t) :: (C2, codeTup c2a c2b 1 c2t) :: ((PL, listOf c.ps.toArray c.kp) :: (KP, c.ok) :: Y)))
   (hend : ∀ h' tk' (d' : Cu) m', CuOK S CD HL KL TR c d' → d'.b = c.b → Fr h₀ L h' m' → News h₀ L h' ((A, instObj 541 AD) :: (AD, dictOf d'.ea d'.na) :: (S, instObj 381 SD) :: (SD, dictOf d'.es d'.ns) :: (HL, listOf (c.hs).toArray c.kh) :: (KL, listOf (c.ks).toArray c.kk) :: (TR, listOf (c.ts).toArray c.kt) :: (CD, listOf ([.ref C1, .ref C2] : List Value).toArray kc) :: (C1, codeTup c1a c1b 2 c1t) :: (C2, codeTup c2a c2b 1 c2t) :: ((PL, listOf c.ps.toArray c.kp) :: (KP, c.ok) :: Y)) → (∀ z, z ≠ y → [Str.ofString "b"].contains z = false → m' z = m₀ z) → Q' .next { s with heap := h', toks := tk' }) (hr : ∀ z, z ≠ y → [Str.ofString "b"].contains z = false → m' z = m₀ z) : Q' .next { s with heap := h', toks := tk } :=
  hend h' tk ⟨ea, es, na, ns, c.b, hb, bb, u3, v1, v2⟩ m' ⟨hA, hS, hB⟩ rfl F N hr
end

end
section
section
variable {A AD S SD HL KL TR CD C1 C2 PL KP LL UR UL CE : Nat}
theorem over_off {p : Addr × Obj} {tl : List (Addr × Obj)} (o : Ords A AD S SD HL KL TR CD C1 C2 PL KP LL UR UL CE) (h : @LT.lt Nat _ LL p.1) (hO : Off AD SD HL KL TR tl) : Off AD SD HL KL TR (p :: tl) :=
  off_cons hO (over_AD o h) (over_SD o h) (over_HL o h) (over_KL o h) (over_TR o h)
theorem Off.sub {tl tl' : List (Addr × Obj)} (h : Off AD SD HL KL TR tl) (hs : ∀ p ∈ tl', p ∈ tl) : Off AD SD HL KL TR tl' := let ⟨g1, g2, g3, g4, g5⟩ := h; ⟨fun p hp => g1 p (hs p hp), fun p hp => g2 p (hs p hp), fun p hp => g3 p (hs p hp), fun p hp => g4 p (hs p hp), fun p hp => g5 p (hs p hp)⟩
variable {c1a c1b c2a c2b : Value} {c1t c2t : Tok} {kc : Nat} {c : St} {prog : Program} {w : World} {Ar : Around} {E : Value → Shared → Prop} {s : Shared} {env : Env} {h₀ : Heap} {y : Str} {body : List Stmt} {Q : Flow → Shared → Prop} {m₀ : Str → Option Value}
theorem law_cuts12 {O K1 K2 K3 K4 n5 k1 k2 k3 k4 i : Nat} {one two older : Int} {t1 t2 t3 t4 t5 t6 t7 : Tok} {x6 x7 x8 x9 x10 x11 x12 : Addr × Obj} {y1 y2 y3 y4 : Obj} (hh : Ar.handled = none) (hord : Ords A AD S SD HL KL TR CD C1 C2 PL KP LL UR UL CE) (I : Inv w S CD HL KL TR i c) (F : Fr h₀ env.locals s.heap m₀) (N : News h₀ env.locals s.heap ((O, listOf ([.ref K1, .ref K2, .ref K3, .ref K4] : List Value).toArray n5) :: (K4, listOf ([.int older t6, .int older t7] : List Value).toArray k4) :: (K3, listOf ([.int older t5] : List Value).toArray k3) :: (K2, listOf ([.int two t3, .int one t4] : List Value).toArray k2) :: (K1, listOf ([.int one t1, .int two t2] : List Value).toArray k1) :: x6 :: x7 :: x8 :: x9 :: x10 :: x11 :: x12 :: ((A, instObj 541 AD) :: (AD, dictOf c.ea c.na) :: (S, instObj 381 SD) :: (SD, dictOf c.es c.ns) :: (HL, listOf (c.hs).toArray c.kh) :: (KL, listOf (c.ks).toArray c.kk) :: (TR, listOf (c.ts).toArray c.kt) :: (CD, listOf ([.ref C1, .ref C2] : List Value).toArray kc) :: (C1, codeTup c1a c1b 2 c1t) :: (C2, codeTup c2a c2b 1 c2t) :: ((PL, listOf c.ps.toArray c.kp) :: (KP, c.ok) :: (LL, y1) :: (UR, y2) :: (UL, y3) :: (CE, y4) :: c.xs))))
    (of : Offs AD SD HL KL TR PL KP LL UR c.xs) (g1 : @LT.lt Nat _ LL O) (g2 : @LT.lt Nat _ LL K4) (g3 : @LT.lt Nat _ LL K3) (g4 : @LT.lt Nat _ LL K2) (g5 : @LT.lt Nat _ LL K1) (g6 : @LT.lt Nat _ LL x6.1) (g7 : @LT.lt Nat _ LL x7.1) (g8 : @LT.lt Nat _ LL x8.1) (g9 : @LT.lt Nat _ LL x9.1) (g10 : @LT.lt Nat _ LL x10.1) (g11 : @LT.lt Nat _ LL x11.1) (g12 : @LT.lt Nat _ LL x12.1)
    (m1 : one ∈ -1 :: c.pn) (m2 : two ∈ -1 :: c.pn) (ho : older = min one two)
    (turn : ∀ (Y : List (Addr × Obj)) (K kk : Nat) (ks : List Value) (kn : List Int) (d : Cu) (u : Str → Option Value) h tk (Q' : Flow → Shared → Prop), (K, listOf ks.toArray kk) ∈ Y → x6 ∈ Y → x7 ∈ Y → x8 ∈ Y → x9 ∈ Y → x10 ∈ Y → (∀ p ∈ c.xs, p ∈ (PL, listOf c.ps.toArray c.kp) :: (KP, c.ok) :: Y) → IntsAre ks kn → (∀ x ∈ kn, x ∈ -1 :: c.pn) → ks.length ≤ 2 → kn.foldl min c.b = older → older ∈ -1 :: c.pn → CuOK S CD HL KL TR c d → d.b = c.b → Off AD SD HL KL TR ((PL, listOf c.ps.toArray c.kp) :: (KP, c.ok) :: Y) →
      Fr h₀ env.locals h (fun q => if q = y then some (.ref K) else kstB (fun z => if [Str.ofString "b"].contains z then u z else m₀ z) [] q) → News h₀ env.locals h ((A, instObj 541 AD) :: (AD, dictOf d.ea d.na) :: (S, instObj 381 SD) :: (SD, dictOf d.es d.ns) :: (HL, listOf (c.hs).toArray c.kh) :: (KL, listOf (c.ks).toArray c.kk) :: (TR, listOf (c.ts).toArray c.kt) :: (CD, listOf ([.ref C1, .ref C2] : List Value).toArray kc) :: (C1, codeTup c1a c1b 2 c1t) :: (C2, codeTup c2a c2b 1 c2t) :: ((PL, listOf c.ps.toArray c.kp) :: (KP, c.ok) :: Y)) →
      (∀ h' tk' (d' : Cu) m', CuOK S CD HL KL TR c d' → d'.b = c.b → Fr h₀ env.locals h' m' → News h₀ env.locals h' ((A, instObj 541 AD) :: (AD, dictOf d'.ea d'.na) :: (S, instObj 381 SD) :: (SD, dictOf d'.es d'.ns) :: (HL, listOf (c.hs).toArray c.kh) :: (KL, listOf (c.ks).toArray c.kk) :: (TR, listOf (c.ts).toArray c.kt) :: (CD, listOf ([.ref C1, .ref C2] : List Value).toArray kc) :: (C1, codeTup c1a c1b 2 c1t) :: (C2, codeTup c2a c2b 1 c2t) :: ((PL, listOf c.ps.toArray c.kp) :: (KP, c.ok) :: Y)) → (∀ z, z ≠ y → [Str.ofString "b"].contains z = false → m' z = m₀ z) → Q' .next { s with heap := h', toks := tk' }) →
      wpAny (model prog w) Ar (execs body env) Q' E { s with heap := h, toks := tk })
    (done : ∀ (m' : Str → Option Value) h tk, Fr h₀ env.locals h m' → (∀ b o, h₀.get? b = some o → h.get? b = some o) → Q .next { s with heap := h, toks := tk }) :
    wpAny (model prog w) Ar (pyIter (.ref O)) (fun it s₂ => LoopAtV prog w Ar h₀ env y body Q E it s₂) E s := by
  have hX0 : Off AD SD HL KL TR ((O, listOf ([.ref K1, .ref K2, .ref K3, .ref K4] : List Value).toArray n5) :: (K4, listOf ([.int older t6, .int older t7] : List Value).toArray k4) :: (K3, listOf ([.int older t5] : List Value).toArray k3) :: (K2, listOf ([.int two t3, .int one t4] : List Value).toArray k2) :: (K1, listOf ([.int one t1, .int two t2] : List Value).toArray k1) :: x6 :: x7 :: x8 :: x9 :: x10 :: x11 :: x12 :: (PL, listOf c.ps.toArray c.kp) :: (KP, c.ok) :: (LL, y1) :: (UR, y2) :: (UL, y3) :: (CE, y4) :: c.xs) :=
    over_off hord g1 (over_off hord g2 (over_off hord g3 (over_off hord g4 (over_off hord g5 (over_off hord g6 (over_off hord g7 (over_off hord g8 (over_off hord g9 (over_off hord g10 (over_off hord g11 (over_off hord g12 (off_tail hord of.ad of.sd of.hl of.kl of.tr))))))))))))
  refine law_cuts (A := A) (C1 := C1) (C2 := C2) (PL := PL) (KP := KP) (c1a := c1a) (c1b := c1b) (c2a := c2a) (c2b := c2b) (c1t := c1t) (c2t := c2t) (kc := kc) (X := ((O, listOf ([.ref K1, .ref K2, .ref K3, .ref K4] : List Value).toArray n5) :: (K4, listOf ([.int older t6, .int older t7] : List Value).toArray k4) :: (K3, listOf ([.int older t5] : List Value).toArray k3) :: (K2, listOf ([.int two t3, .int one t4] : List Value).toArray k2) :: (K1, listOf ([.int one t1, .int two t2] : List Value).toArray k1) :: x6 :: x7 :: x8 :: x9 :: x10 :: x11 :: x12 :: (LL, y1) :: (UR, y2) :: (UL, y3) :: (CE, y4) :: c.xs)) hh I F N ?_ (.head _) (.tail _ (.tail _ (.tail _ (.tail _ (.head _))))) (.tail _ (.tail _ (.tail _ (.head _)))) (.tail _ (.tail _ (.head _))) (.tail _ (.head _)) m1 m2 ho (hX0.sub ?_) ?_ done
  · intro p hp
    simp only [List.mem_cons] at hp ⊢
    rcases hp with hp | hp | hp | hp | hp | hp | hp | hp | hp | hp | hp | hp | hp | hp | hp | hp | hp | hp | hp | hp | hp | hp | hp | hp | hp | hp | hp | hp | hp
    all_goals simp only [hp, true_or, or_true]
  · intro p hp
    simp only [List.mem_cons] at hp ⊢
    rcases hp with hp | hp | hp | hp | hp | hp | hp | hp | hp | hp | hp | hp | hp | hp | hp | hp | hp | hp | hp
    all_goals simp only [hp, true_or, or_true]
  · intro K kk ks kn d u h tk own Q' hK hI hk hl hf hom hC hb hO F9 N9 hend
    exact turn _ K kk ks kn d u h tk Q' hK (List.mem_append_left _ (by simp)) (List.mem_append_left _ (by simp)) (List.mem_append_left _ (by simp)) (List.mem_append_left _ (by simp)) (List.mem_append_left _ (by simp)) (fun p hp => .tail _ (.tail _ (List.mem_append_left _ (by simp [hp])))) hI hk hl hf hom hC hb hO F9 N9 hend
end

end
section
def Ris (p : Array Nat) : Prop := ∀ a b, a < b → b < p.size → p.getD a 0 < p.getD b 0
theorem below_go (xs : Array Nat) (j : Nat) (hr : Ris xs) : ∀ fuel lo hi, lo ≤ hi → hi ≤ xs.size → hi - lo ≤ fuel → (∀ i, i < lo → xs.getD i 0 < j) → (∀ i, hi ≤ i → i < xs.size → j ≤ xs.getD i 0) →
    SetTable.below.go xs j fuel lo hi ≤ xs.size ∧ (∀ i, i < SetTable.below.go xs j fuel lo hi → xs.getD i 0 < j) ∧ (∀ i, SetTable.below.go xs j fuel lo hi ≤ i → i < xs.size → j ≤ xs.getD i 0)
  | 0, lo, hi, h1, h2, h3, h4, h5 => by
    unfold SetTable.below.go
    obtain rfl : lo = hi := by omega
    exact ⟨h2, h4, h5⟩
  | fuel + 1, lo, hi, h1, h2, h3, h4, h5 => by
    unfold SetTable.below.go
    by_cases h : lo < hi
    · rw [if_pos h]
      dsimp only
      have eD : xs.getD ((lo + hi) / 2) j = xs.getD ((lo + hi) / 2) 0 := by
        have hlt : (lo + hi) / 2 < xs.size := by omega
        rw [Array.getD_eq_getD_getElem?, Array.getD_eq_getD_getElem?, Array.getElem?_eq_getElem hlt]; rfl
      rw [eD]
      by_cases hm : xs.getD ((lo + hi) / 2) 0 < j
      · rw [if_pos hm]
        refine below_go xs j hr fuel _ _ (by omega) h2 (by omega) (fun i hi' => ?_) h5
        rcases Nat.lt_or_ge i ((lo + hi) / 2) with h6 | h6
        · exact Nat.lt_trans (hr _ _ h6 (by omega)) hm
        · obtain rfl : i = (lo + hi) / 2 := by omega
          exact hm
      · rw [if_neg hm]
        refine below_go xs j hr fuel _ _ (by omega) (by omega) (by omega) h4 (fun i hi' hs => ?_)
        rcases Nat.lt_or_ge ((lo + hi) / 2) i with h6 | h6
        · have := hr _ _ h6 hs; omega
        · obtain rfl : i = (lo + hi) / 2 := by omega
          omega
    · rw [if_neg h]
      obtain rfl : lo = hi := by omega
      exact ⟨h2, h4, h5⟩
theorem below_spec (xs : Array Nat) (j : Nat) (hr : Ris xs) : SetTable.below xs j ≤ xs.size ∧ (∀ i, i < SetTable.below xs j → xs.getD i 0 < j) ∧ (∀ i, SetTable.below xs j ≤ i → i < xs.size → j ≤ xs.getD i 0) :=
  below_go xs j hr _ _ _ (Nat.zero_le _) (Nat.le_refl _) (Nat.le_refl _) (fun _ h => nomatch h) (fun i h1 h2 => absurd h2 (by omega))
theorem below_next (xs : Array Nat) (hr : Ris xs) {i : Nat} (hi : i < xs.size) : SetTable.below xs (xs.getD i 0 + 1) = i + 1 := by
  obtain ⟨h1, h2, h3⟩ := below_spec xs (xs.getD i 0 + 1) hr
  rcases Nat.lt_trichotomy (SetTable.below xs (xs.getD i 0 + 1)) (i + 1) with h | h | h
  · have := h3 i (by omega) hi; omega
  · exact h
  · have := h2 (i + 1) h
    have := hr i (i + 1) (by omega) (by omega)
    omega
theorem below_zero (xs : Array Nat) (hr : Ris xs) : SetTable.below xs 0 = 0 := by
  obtain ⟨h1, h2, h3⟩ := below_spec xs 0 hr
  rcases Nat.eq_zero_or_pos (SetTable.below xs 0) with h | h
  · exact h
  · exact absurd (h2 0 h) (Nat.not_lt_zero _)
theorem ins_size {α : Type} (xs : Array α) (p : Nat) (x : α) : (SetTable.insertAt xs p x).size = xs.size + 1 := by
  have := (SetTable.insertAt_perm xs p x).length_eq
  simpa using this
theorem ins_get (xs : Array Nat) (p x i : Nat) (hp : p ≤ xs.size) : (SetTable.insertAt xs p x).getD i 0 = if i < p then xs.getD i 0 else if i = p then x else xs.getD (i - 1) 0 := by
  have e : ∀ (a : Array Nat) (i : Nat), a.getD i 0 = (a.toList[i]?).getD 0 := fun a i => by rw [Array.getD_eq_getD_getElem?, Array.getElem?_toList]
  rw [e, SetTable.toList_insertAt, e, e]
  have hl : (xs.toList.take p).length = p := by rw [List.length_take, Array.length_toList]; omega
  by_cases h1 : i < p
  · rw [if_pos h1, List.getElem?_append_left (by omega), List.getElem?_take, if_pos h1]
  · rw [if_neg h1, List.getElem?_append_right (by omega), hl]
    by_cases h2 : i = p
    · rw [if_pos h2, h2, Nat.sub_self]; rfl
    · rw [if_neg h2]
      obtain ⟨k, rfl⟩ : ∃ k, i = p + k + 1 := ⟨i - p - 1, by omega⟩
      rw [show p + k + 1 - p = k + 1 by omega, List.getElem?_cons_succ, List.getElem?_drop, show p + k + 1 - 1 = p + k by omega]
theorem ris_ins (xs : Array Nat) (j : Nat) (hr : Ris xs) (hn : xs[SetTable.below xs j]? ≠ some j) : Ris (SetTable.insertAt xs (SetTable.below xs j) j) := by
  obtain ⟨h1, h2, h3⟩ := below_spec xs j hr
  have h4 : ∀ i, SetTable.below xs j ≤ i → i < xs.size → j < xs.getD i 0 := by
    intro i hi hs
    have h5 : xs.getD (SetTable.below xs j) 0 ≠ j := fun e => hn (by
      have hlt : SetTable.below xs j < xs.size := by omega
      rw [Array.getElem?_eq_getElem hlt]
      rw [Array.getD_eq_getD_getElem?, Array.getElem?_eq_getElem hlt] at e
      exact congrArg some e)
    have h6 := h3 _ (Nat.le_refl _) (by omega)
    rcases Nat.lt_or_ge (SetTable.below xs j) i with h | h
    · have := hr _ _ h hs; omega
    · obtain rfl : i = SetTable.below xs j := by omega
      omega
  intro a b hab hb
  rw [ins_size] at hb
  rw [ins_get _ _ _ _ h1, ins_get _ _ _ _ h1]
  by_cases ha : a < SetTable.below xs j
  · rw [if_pos ha]
    by_cases hb1 : b < SetTable.below xs j
    · rw [if_pos hb1]; exact hr _ _ hab (by omega)
    · rw [if_neg hb1]
      by_cases hb2 : b = SetTable.below xs j
      · rw [if_pos hb2]; exact h2 _ ha
      · rw [if_neg hb2]; exact hr _ _ (by omega) (by omega)
  · rw [if_neg ha, if_neg (show ¬ b < SetTable.below xs j by omega), if_neg (show ¬ b = SetTable.below xs j by omega)]
    by_cases ha2 : a = SetTable.below xs j
    · rw [if_pos ha2]; exact h4 _ (by omega) (by omega)
    · rw [if_neg ha2]; exact hr _ _ (by omega) (by omega)
def Dead (t : SetTable) (j : Nat) : Prop := ∀ i, t.slot j ≠ .live i
theorem Dead.off {t : SetTable} {j : Nat} (h : Dead t j) : t.place[SetTable.below t.place j]? ≠ some j := fun e => h _ (by unfold SetTable.slot; dsimp only; rw [e]; simp; rfl)
theorem advance_dummy (t : SetTable) (p : SetTable.Probe) : (t.advance p).dummy = p.dummy := by
  unfold SetTable.advance
  split <;> rfl
theorem probe_dead (t : SetTable) (hashAt : Nat → Int) (h : Int) : ∀ (fuel : Nat) (p : SetTable.Probe) (j : Nat) (dm : Option Nat), (∀ d, p.dummy = some d → Dead t d) →
    SetTable.probe.go t hashAt h fuel p = some (.empty j dm) → Dead t j ∧ ∀ d, dm = some d → Dead t d
  | 0, p, j, dm, _, e => by unfold SetTable.probe.go at e; cases e
  | fuel + 1, p, j, dm, hp, e => by
    unfold SetTable.probe.go at e
    split at e
    · rename_i hs
      simp only [Option.some.injEq, SetTable.Met.empty.injEq] at e
      obtain ⟨rfl, rfl⟩ := e
      exact ⟨fun i hi => (by rw [hs] at hi; cases hi), hp⟩
    · rename_i hs
      refine probe_dead t hashAt h fuel _ j dm (fun d hd => ?_) e
      rw [advance_dummy] at hd
      injection hd with hd
      subst hd
      exact fun i hi => by rw [hs] at hi; cases hi
    · split at e
      · cases e
      · exact probe_dead t hashAt h fuel _ j dm (fun d hd => hp d (by rw [advance_dummy] at hd; exact hd)) e
theorem free_dead {t : SetTable} {h : Int} {slot : Nat} {was : Bool} (e : t.freeSlot h = some (slot, was)) : Dead t slot := by
  unfold SetTable.freeSlot at e
  split at e
  · rename_i j dm hq
    simp only [Option.some.injEq, Prod.mk.injEq] at e
    obtain ⟨e1, _⟩ := e
    obtain ⟨h1, h2⟩ := probe_dead t _ h _ _ j dm (fun d hd => by cases hd) hq
    cases dm with
    | none => subst e1; exact h1
    | some d => subst e1; exact h2 d rfl
  · cases e
def TabOK (b : Bool) (t : SetTable) : Prop := t.led = b ∧ (t.plain = true → Ris t.place)
theorem standIn_ok {b : Bool} {t : SetTable} (h : TabOK b t) (n : Nat) : TabOK b (t.standIn n) := ⟨h.1, fun e => nomatch e⟩
theorem layNew_ok {b : Bool} {t : SetTable} (h : TabOK b t) (es : Array (Int × Value)) (k : Int) (x : Value) : TabOK b (layNew t es k x).2.1 := by
  unfold layNew
  split
  · rename_i slot was hf
    dsimp only
    have h1 : TabOK b (t.put slot).1 := ⟨h.1, fun e => ris_ins _ _ (h.2 e) (free_dead hf).off⟩
    unfold SetTable.orStandIn
    split
    · exact h1
    · exact standIn_ok h1 _
  · exact standIn_ok h _
theorem live_sub {β : Type} (g : Nat → Option β) : ∀ l : List Nat, ((l.filterMap fun j => (g j).map (j, ·)).map (·.1)).Sublist l
  | [] => .slnil
  | a :: r => by
    rw [List.filterMap_cons]
    cases e : g a with
    | none => exact (live_sub g r).cons a
    | some y => exact (live_sub g r).cons_cons a
theorem ris_of_pairwise {l : List Nat} (h : l.Pairwise (· < ·)) : Ris l.toArray := by
  intro a b hab hb
  rw [List.size_toArray] at hb
  have e : ∀ i, i < l.length → l.toArray.getD i 0 = l[i]?.getD 0 := fun i _ => by rw [Array.getD_eq_getD_getElem?]; simp
  rw [e _ (by omega), e _ hb, List.getElem?_eq_getElem (by omega), List.getElem?_eq_getElem hb]
  exact List.pairwise_iff_getElem.mp h a b (by omega) hb hab
theorem relayAll_ok {b : Bool} {t : SetTable} (h : TabOK b t) (es : Array (Int × Value)) (wanted : Nat) : TabOK b (relayAll t es wanted).2.1 := by
  unfold relayAll
  split
  · rename_i t' order hq
    have h1 : TabOK b t' := by
      unfold SetTable.relaid SetTable.laid at hq
      simp only [Option.bind_eq_bind, Option.bind_eq_some_iff, Option.pure_def, Option.some.injEq, Prod.mk.injEq] at hq
      obtain ⟨owner, _, rfl, _⟩ := hq
      exact ⟨h.1, fun _ => ris_of_pairwise (List.Pairwise.sublist (live_sub _ _) List.pairwise_lt_range)⟩
    dsimp only
    split
    · exact h1
    · exact standIn_ok h _
  · exact standIn_ok h _

end
section
def SetIs (w : World) (h : Heap) (a : Addr) (es : List (Int × Value)) : Prop :=
  ∃ o arr ep t, h.get? a = some o ∧ o.ExactSet ∧ o.data = .set arr ep t ∧ arr.toList.Perm es ∧ t.fits arr.size = true ∧ TabOK (!w.params.followText "set-order") t
section
variable {prog : Program} {w : World} {K : Type} [DecidableEq K] {knd : KeyKind prog w K} {A : Around} {E : Value → Shared → Prop} {s : Shared} {a : Addr} {es : List (Int × Value)}
theorem SetIs.at {h h' : Heap} (S : SetIs w h a es) (e : ∀ o, h.get? a = some o → h'.get? a = some o) : SetIs w h' a es := by
  obtain ⟨o, arr, ep, t, ho, r⟩ := S
  exact ⟨o, arr, ep, t, e _ ho, r⟩
theorem SetIs.typeIs {g : Array GenState} {d : Drawn} {tk : Nat} {os : OsState} {h : Heap} (S : SetIs w h a es) : Shared.TypeIs ⟨h, g, d, tk, os⟩ (.ref a) "set" := by
  obtain ⟨o, arr, ep, t, ho, hex, _⟩ := S
  exact ⟨o, ho, hex.1⟩
theorem SetIs.lt {h : Heap} (S : SetIs w h a es) : a < h.objs.size := by
  obtain ⟨o, arr, ep, t, ho, _⟩ := S
  exact Heap.lt_size ho
theorem set_stored {h : Heap} {o : Obj} {arr : Array (Int × Value)} {ep : Nat} {t : SetTable} (ho : h.get? a = some o) (hex : o.ExactSet) (hd : o.data = .set arr ep t)
    {arr' : Array (Int × Value)} {t' : SetTable} (hp : arr'.toList.Perm es) (hf : t'.fits arr'.size = true) (hT : TabOK (!w.params.followText "set-order") t') :
    (h.update a (Obj.putSet arr' t')).get? a = some { o with data := .set arr' (ep + 1) t' } ∧ SetIs w (h.update a (Obj.putSet arr' t')) a es := by
  have hg : (h.update a (Obj.putSet arr' t')).get? a = some { o with data := .set arr' (ep + 1) t' } := by
    have q := Heap.get?_update_self (Obj.putSet arr' t') ho (by rw [putSet_of arr' t' hd]; rfl)
    rwa [putSet_of arr' t' hd] at q
  exact ⟨hg, _, arr', ep + 1, t', hg, hex, rfl, hp, hf, hT⟩
theorem gave_any {g : Bool → Sem Unit} (hg : ∀ (b : Bool) (s₁ : Shared) (Q' : Unit → Shared → Prop), Q' () s₁ → wpAny (model prog w) A (g b) Q' E s₁)
    {o : Obj} {arr : Array (Int × Value)} {ep : Nat} {t : SetTable} (ho : s.heap.get? a = some o) (hex : o.ExactSet) (hd : o.data = .set arr ep t)
    {arr1 : Array (Int × Value)} {t2 : SetTable} (hp : arr1.toList.Perm es) (hb : es.length < scanBound) (hf : t2.fits arr1.size = true) (hT : TabOK (!w.params.followText "set-order") t2) {was : Bool} {R : Option Bool → Shared → Prop}
    (h : ∀ h', Heap.SameBut a s.heap h' → SetIs w h' a es → R (some true) { s with heap := h' }) :
    wpAny (model prog w) A (do
        storeSet a arr1 t2
        if (!was && t2.tooFull) = true then do
            g (relayAll t2 arr1 (SetTable.grown arr1.size)).2.2
            storeSet a (relayAll t2 arr1 (SetTable.grown arr1.size)).1 (relayAll t2 arr1 (SetTable.grown arr1.size)).2.1
            pure (some true)
          else pure (some true)) R E s := by
  have hsz : arr1.size = es.length := by rw [← hp.length_eq, Array.length_toList]
  obtain ⟨ho1, hS1⟩ := set_stored (w := w) (es := es) ho hex hd hp hf hT
  have b1 := Heap.SameBut.update s.heap a (Obj.putSet arr1 t2)
  refine wpAny_bind (wpAny_storeSet_of ho hd ?_ (fits_of_scanBound (by omega)))
  split
  · have hp2 := relayAll_perm t2 arr1 (SetTable.grown arr1.size)
    have hf2 := relayAll_fits t2 arr1 (SetTable.grown arr1.size)
    have hT2 := relayAll_ok hT arr1 (SetTable.grown arr1.size)
    revert hp2 hf2 hT2
    generalize relayAll t2 arr1 (SetTable.grown arr1.size) = Z
    obtain ⟨arr2, t3, gv⟩ := Z
    intro hp2 hf2 hT2
    dsimp only at hp2 hf2 hT2 ⊢
    have hsz2 : arr2.size = es.length := by rw [← (hp2.trans hp).length_eq, Array.length_toList]
    refine wpAny_bind (hg _ _ _ ?_)
    refine wpAny_bind (wpAny_storeSet_of ho1 rfl ?_ (fits_of_scanBound (by omega)))
    obtain ⟨_, hS2⟩ := set_stored (w := w) (es := es) ho1 hex rfl (hp2.trans hp) hf2 hT2
    exact wpAny_pure (h _ (b1.trans (Heap.SameBut.update _ a _)) hS2)
  · exact wpAny_pure (h _ b1 hS1)
theorem set_add {k : K} {x : Value} {Q : Bool → Shared → Prop} (hkey : knd.is k x = true) (hsc : x.scannable = true) (hS : SetIs w s.heap a es) (hel : ElemsOf knd es) (hnew : ∀ e ∈ es, knd.is k e.2 = false) (hb : es.length + 1 < scanBound)
    (h : ∀ h', Heap.SameBut a s.heap h' → SetIs w h' a (es ++ [(knd.hash k, x)]) → Q true { s with heap := h' }) : wpAny (model prog w) A (setAddHashed a x (knd.hash k)) Q E s := by
  obtain ⟨o, arr, ep, t, ho, hex, hd, hp, hf, hT⟩ := hS
  have hsz : arr.size = es.length := by rw [← hp.length_eq, Array.length_toList]
  have hel' : ElemsOf knd arr.toList := hel.perm hp
  unfold setAddHashed setAddHashedIn
  refine wpAny_holding (wpAny_bind (wpAny_setState_of ho hd hf ?_))
  dsimp only
  rw [byScan_of hsc (by omega) hel']
  simp only [↓reduceIte]
  unfold setAddByScan
  refine wpAny_bind (wpAny_bind (wpAny_rule (wpAny_bind (wpAny_setScan_of hkey ho hd hf hel' ?_))))
  have hnone : List.findIdx? (fun e => knd.is k e.2) arr.toList = none := List.findIdx?_eq_none_iff.mpr fun e he => by
    rw [hnew e (hp.mem_iff.mp he)]
  rw [hnone]
  dsimp only
  have hgw : ∀ (b : Bool) {s₁ : Shared} {Q' : Unit → Shared → Prop}, Q' () s₁ → wpAny (model prog w) A (match b with | true => rule "set.scan.the-table-gave-way" | false => pure ()) Q' E s₁ :=
    fun b s₁ Q' hq => by cases b <;> first | exact wpAny_pure hq | exact wpAny_rule hq
  have hp1 := layNew_perm t arr (knd.hash k) x
  have hf1 := layNew_fits t arr (knd.hash k) x
  have hT1 := layNew_ok hT arr (knd.hash k) x
  revert hp1 hf1 hT1
  generalize layNew t arr (knd.hash k) x = Z
  obtain ⟨arr1, t1, was, gv⟩ := Z
  intro hp1 hf1 hT1
  dsimp only at hp1 hf1 hT1 ⊢
  rw [Array.toList_push] at hp1
  have hp2 : arr1.toList.Perm (es ++ [(knd.hash k, x)]) := hp1.trans (hp.append_right _)
  have hb2 : (es ++ [(knd.hash k, x)]).length < scanBound := by rw [List.length_append, List.length_singleton]; exact hb
  refine wpAny_bind (hgw _ ?_)
  have hend : ∀ h', Heap.SameBut a s.heap h' → SetIs w h' a (es ++ [(knd.hash k, x)]) → Q true { s with heap := h' } := h
  split
  · refine wpAny_bind ?_
    rw [hashByValue_scannable 8 hsc]
    refine wpAny_pure ?_
    refine gave_any ?_ ho hex hd hp2 hb2 ?_ ?_ ?_
    · intro b s₁ Q' hq; cases b <;> first | exact wpAny_pure hq | exact wpAny_rule hq
    · split
      · exact hf1
      · exact SetTable.fits_plain_off hf1
    · split
      · exact hT1
      · exact ⟨hT1.1, fun e => nomatch e⟩
    · intro h' hsb hS'; dsimp only; exact wpAny_pure (hend h' hsb hS')
  · refine wpAny_bind (wpAny_pure ?_)
    simp only [↓reduceIte]
    refine gave_any ?_ ho hex hd hp2 hb2 hf1 hT1 ?_
    · intro b s₁ Q' hq; cases b <;> first | exact wpAny_pure hq | exact wpAny_rule hq
    · intro h' hsb hS'; dsimp only; exact wpAny_pure (hend h' hsb hS')
end

end
section
section
variable {prog : Program} {w : World} {A : Around} {R : Result → Shared → Prop} {I : Addr} {fp wr : List Addr} {G : Array GenState → Array GenState → Prop} {n : Nat} {P : Nat → Value → Prop} {St : Nat → Shared → Prop}
theorem ints_mem : ∀ {vs : List Value} {ns : List Int}, IntsAre vs ns → ∀ v ∈ vs, ∃ k ∈ ns, ∃ t, v = .int k t
  | _, _, .nil, v, h => nomatch h
  | _, _, .cons k t hr, v, h => by
    rcases List.mem_cons.mp h with rfl | h
    · exact ⟨k, .head _, t, rfl⟩
    · obtain ⟨k', hk', r⟩ := ints_mem hr v h
      exact ⟨k', .tail _ hk', r⟩
theorem set_loop (W : WalksS prog w A.in1 I fp wr G n P St) (S : Addr) (hSf : S ∉ fp) (val : Nat → Int) (hval : ∀ i v, P i v → ∃ t, v = .int (val i) t) (hne : ∀ i j, i < j → j < n → val i ≠ val j) (hb : n + 1 < scanBound) :
    ∀ (k i : Nat) (s : Shared) (es : List (Int × Value)), n - i = k → i ≤ n → St i s → SetIs w s.heap S es → ElemsOf (intKind prog w) es → IntsAre (es.map (·.2)) ((List.range i).map val) →
      (∀ s' es', Moved (S :: wr) G s s' → SetIs w s'.heap S es' → IntsAre (es'.map (·.2)) ((List.range n).map val) → R (.ok (.ret .none)) s') →
      codeAny (model prog w) A (.builtin "set.update.loop" ⟨[.ref S, .ref I], []⟩) R s
  | 0, i, s, es, hk, hi, hst, hS, hel, hI, hR => by
    have hin : i = n := by omega
    subst hin
    refine codeAny_builtin PyProof.Rows.F.entry_set_update_loop ?_
    rw [Around.under_plainId PyProof.Rows.F.plain_set_update_loop _]
    show wpAny _ A.in1 (pyNext (.ref I) >>= _) _ _ s
    refine wpAny_bind (W.done s _ _ hst fun s' hm => ?_)
    show wpAny _ A.in1 (ret Value.none) _ _ s'
    exact wpAny_pure (hR s' es (hm.mono fun b hb => List.mem_cons_of_mem _ hb) (hS.at fun o e => hm.heap S _ (fun h => hSf (W.sub _ h)) e) hI)
  | k + 1, i, s, es, hk, hi, hst, hS, hel, hI, hR => by
    have hlt : i < n := by omega
    refine codeAny_builtin PyProof.Rows.F.entry_set_update_loop ?_
    rw [Around.under_plainId PyProof.Rows.F.plain_set_update_loop _]
    show wpAny _ A.in1 (pyNext (.ref I) >>= _) _ _ s
    refine wpAny_bind (W.item i s _ _ hlt hst fun v s' hP hst' hm => ?_)
    obtain ⟨t, rfl⟩ := hval i v hP
    have hS' : SetIs w s'.heap S es := hS.at fun o e => hm.heap S _ (fun h => hSf (W.sub _ h)) e
    show wpAny _ A.in1 (holding [Value.int (val i) t] (setAdd S (.int (val i) t)) >>= _) _ _ s'
    refine wpAny_bind (wpAny_holding ?_)
    unfold setAdd
    refine wpAny_holding (wpAny_bind ((intKind prog w).pyHash (k := val i) (intKind_is _ _ _ _) ?_))
    have hlen : es.length = i := by have := hI.length; simpa using this
    refine set_add (knd := intKind prog w) (s := { s' with toks := s'.toks + 1 }) (intKind_is _ _ _ _) rfl hS' hel ?_ (by omega) fun h' hsb hS2 => ?_
    · intro e he
      obtain ⟨k', hk', t', e2⟩ := ints_mem hI e.2 (List.mem_map.mpr ⟨e, he, rfl⟩)
      obtain ⟨j, hj, rfl⟩ := List.mem_map.mp hk'
      rw [e2, KeyKind.is_eq_decide (knd := intKind prog w) (intKind_is prog w (val j) t') (val i)]
      exact decide_eq_false fun q => hne j i (List.mem_range.mp hj) hlt q.symm
    · have hI2 : IntsAre ((es ++ [((intKind prog w).hash (val i), Value.int (val i) t)]).map (·.2)) ((List.range (i + 1)).map val) := by
        rw [List.map_append, List.range_succ, List.map_append]
        exact hI.append (.cons _ _ .nil)
      refine wpAny_pure ⟨plainId_quiet PyProof.Rows.F.plain_set_update_loop _, set_loop W S hSf val hval hne hb k (i + 1) _ _ (by omega) hlt (W.frame _ s' _ _ hst' (Nat.le_succ _) fun b hb o e => ?_) hS2 (hel.push (intKind_is _ _ _ _) rfl) hI2 fun s'' es' hm'' hS'' hI'' => ?_⟩
      · rw [hsb.2 b (fun h : b = S => hSf (by rw [← h]; exact hb))]; exact e
      · refine hR s'' es' (Moved.trans W.gtrans ((hm.mono fun b hb => List.mem_cons_of_mem _ hb).then_heap (Nat.le_succ _) fun b o hb e => ?_) hm'') hS'' hI''
        rw [hsb.2 b (fun h : b = S => hb (by rw [h]; exact List.mem_cons_self))]; exact e
end
theorem set_fresh {w : World} {h : Heap} {b : Bool} (e : b = !w.params.followText "set-order") : SetIs w (h.push { cls := .type "set", dict := none, data := .set #[] 0 (.fresh 0 0 b) }) h.objs.size [] :=
  ⟨_, #[], 0, _, Heap.get?_push_size _ rfl, ⟨rfl, rfl, rfl⟩, rfl, .rfl, by rfl, e, fun _ a b _ hb => by simp [SetTable.fresh] at hb⟩
section
variable {prog : Program} {w : World} {A : Around} {E : Value → Shared → Prop} {s : Shared}
theorem code_new_set (a : Value) {Q₁ : Value → Shared → Prop}
    (h : ∀ led : Bool, led = (!w.params.followText "set-order") → Q₁ (.ref s.heap.objs.size) { s with heap := s.heap.push { cls := .type "set", dict := none, data := .set #[] 0 (.fresh 0 0 led) } }) :
    codeAny (model prog w) A (.call (.builtin "set.__new__") ⟨[.type "set", a], []⟩) (wants Q₁ E) s := by
  refine codeAny_of_tree ?_
  show wpAny _ A.in1 (do checkBuiltinCall "set.__new__" ⟨[.type "set", a], []⟩; again (.builtin "set.__new__" ⟨[.type "set", a], []⟩)) _ _ s
  refine wpAny_bind (wpAny_of_eq (PySem.F.newCall_set_1 a) (wpAny_pure ⟨plainId_quiet PySem.F.plain_set_new _, codeAny_builtin PySem.F.entry_set_new ?_⟩))
  rw [Around.under_plainId PySem.F.plain_set_new _]
  unfold Builtin.«set.__new__» Builtin.Frozenset.newClass
  have hsub := sub_set_self
  obtain ⟨hp, g, d, tk, os⟩ := s
  dsimp only
  wp_walk
  refine wpAny_askSetting (wpAny_pure ?_)
  dsimp only
  simp only [newObj]
  refine wpAny_bind (wpAny_alloc (wpAny_pure ?_))
  exact wpAny_pure (h _ rfl)
end

end
section
structure Wrap (p : Prop) : Prop where
  out : p
section
variable {prog : Program} {w : World} {A : Around} {E : Value → Shared → Prop} {s : Shared}
theorem call_type {T newId initId : String} {args : List Value} {Q Q₁ : Value → Shared → Prop} (ft : TypeCalled T newId initId) (hct : checkTypeCall T ⟨args, []⟩ = pure ())
    (hnew : codeAny (model prog w) A.in1 (.call (.builtin newId) ⟨.type T :: args, []⟩) (wants Q₁ E) s)
    (hnext : ∀ obj s₁, Q₁ obj s₁ → s₁.TypeIs obj T ∧ codeAny (model prog w) A.in1 (.call (.builtin initId) ⟨obj :: args, []⟩) (wants (fun r s₂ => r = .none ∧ Q obj s₂) E) s₁) : wpAny (model prog w) A (call (.type T) args) Q E s := by
  obtain ⟨c, tl, hmro⟩ := ft.mro
  have hmade := ft.made
  have hsub := ft.sub
  have h1 := ft.notType
  have h2 := ft.canCreate
  refine wpAny_call (codeAny_of_tree ?_)
  show wpAny _ _ (callAny (.type T) _) _ _ _
  refine wpAny_pure ⟨Code.quiet_builtin _ (by decide +kernel), codeAny_builtin PySem.F.entry_type_call ?_⟩
  rw [Around.under_plain (weight_type_call_type T args []) rfl]
  repeat (any_goals (first | assumption | wp_step))
  refine codeAny_mono hnew fun r s₁ hr => ?_
  cases r with
  | error e => exact hr
  | ok fl =>
    cases fl with
    | ret obj =>
      obtain ⟨hT, hc⟩ := hnext _ _ hr
      have hli := ft.init.lookup
      have hbi := ft.init.bind obj
      repeat (any_goals (first | assumption | wp_step))
      refine codeAny_mono hc fun r₂ s₂ hr₂ => ?_
      cases r₂ with
      | error e => exact hr₂
      | ok fl₂ =>
        cases fl₂ with
        | ret r =>
          obtain ⟨rfl, hq⟩ := hr₂
          repeat (any_goals (first | assumption | wp_step))
        | _ => exact hr₂.elim
    | _ => exact hr.elim
set_option maxHeartbeats 8000000 in
theorem set_init {l a : Addr} {vs : List Value} {ns : List Int} {Q : Value → Shared → Prop} (hh : A.handled = none) (hl : s.heap.IsList l vs.toArray) (hla : l ≠ a) (hi : IntsAre vs ns) (hnd : ns.Nodup) (hb : ns.length + 1 < scanBound) {led : Bool} (hoa : s.heap.get? a = some { cls := .type "set", dict := none, data := .set #[] 0 (.fresh 0 0 led) }) (hled : led = !w.params.followText "set-order")
    (h : ∀ (h' : Heap) (tk : Nat) (es : List (Int × Value)), SetIs w h' a es → IntsAre (es.map (·.2)) ns → (∀ b o, b ≠ a → s.heap.get? b = some o → h'.get? b = some o) → Q .none { s with heap := h', toks := tk }) :
    codeAny (model prog w) A (.call (.builtin "set.__init__") ⟨[.ref a, .ref l], []⟩) (wants Q E) s := by
  have hF : SetIs w s.heap a [] := ⟨_, #[], 0, _, hoa, ⟨rfl, rfl, rfl⟩, rfl, .rfl, by rfl, hled, fun _ a b _ hb => by simp [SetTable.fresh] at hb⟩
  have hT : s.TypeIs (.ref a) "set" := hF.typeIs
  refine codeAny_call_builtin PySem.F.called_set.init.plain PySem.F.entry_set_init (check_set_init_1 hT ?_)
  have hvn : vs.length = ns.length := hi.length
  have hsz : vs.toArray.size = ns.length := by rw [List.size_toArray, hvn]
  have hval0 : (List.range ns.length).map (fun i => ns.getD i 0) = ns := by
    refine List.ext_getElem (by simp) fun i h1 h2 => ?_
    simp
    rw [List.getElem?_eq_getElem h2]; rfl
  replace hi := Wrap.mk hi
  replace hnd := Wrap.mk hnd
  replace hb := Wrap.mk hb
  replace hsz := Wrap.mk hsz
  replace hval0 := Wrap.mk hval0
  replace h := Wrap.mk h
  have hl0 := Wrap.mk hl
  replace hF := Wrap.mk hF
  clear hvn
  obtain ⟨ol, hol, hcl, nl, hdl⟩ := hl
  have hTl : s.TypeIs (.ref l) "list" := ⟨ol, hol, hcl⟩
  have hsls := PySem.F.sub_list_set
  have hslf := PySem.F.sub_list_frozenset
  have hne : (Value.type "list" == Value.type "dict") = false := by decide
  unfold Builtin.«set.__init__» noKeywords Builtin.Frozenset.updateFrom
  generalize hPI : pyIter = PI
  replace hled := Wrap.mk hled
  wp_walk
  subst hPI
  replace hl := hl0.out
  replace hi := hi.out
  replace hnd := hnd.out
  replace hb := hb.out
  replace hsz := hsz.out
  replace hval0 := hval0.out
  replace hF := hF.out
  replace h := h.out
  refine wpAny_pyIter_list hl ?_
  refine wpAny_bind (wpAny_runValue ?_)
  have hne : l ≠ s.heap.objs.size := fun e => by obtain ⟨o, ho, _⟩ := hl; exact absurd (Heap.lt_size ho) (by rw [e]; exact Nat.lt_irrefl _)
  have hna : a ≠ s.heap.objs.size := Nat.ne_of_lt hF.lt
  have hh3 : A.in1.in1.handled = none := by simpa using hh
  refine set_loop ((Walks.list hh3 s.heap.objs.size l hne vs.toArray).toS) a (by simp only [List.mem_cons, List.not_mem_nil, or_false, not_or]; exact ⟨hna, Ne.symm hla⟩) (fun i => ns.getD i 0) (fun i v hv => PyProof.Rows.IntsAre.int_at hi i v (by simpa using hv)) ?hne (by omega) (vs.toArray.size - 0) 0 _ [] (by omega) (Nat.zero_le _)
    ⟨⟨_, Heap.get?_push_size _ rfl, rfl, rfl⟩, (hl.push _)⟩ (hF.at fun o e => Heap.get?_push_of_some _ e) (fun e he => nomatch he) .nil ?hR
  case hne =>
    intro i j hij hj
    rw [hsz] at hj
    have e : ∀ k, k < ns.length → ns.getD k 0 = ns[k]?.getD 0 := fun k _ => List.getD_eq_getElem?_getD ..
    rw [e i (by omega), e j hj, List.getElem?_eq_getElem (by omega), List.getElem?_eq_getElem hj]
    exact List.pairwise_iff_getElem.mp hnd i j (by omega) hj hij
  case hR =>
    intro s' es' hm hS' hI'
    rw [hsz, hval0] at hI'
    rw [Moved.eq_with hm]
    refine wpAny_pure ?_
    show wpAny _ _ (ret Value.none) _ _ _
    refine wpAny_pure ?_
    refine h s'.heap s'.toks es' hS' hI' fun b o hb e => ?_
    refine hm.heap b o (fun hmem => ?_) (Heap.get?_push_of_some _ e)
    rcases List.mem_cons.mp hmem with e' | hmem
    · exact hb e'
    · rw [List.mem_singleton.mp hmem] at e
      exact absurd (Heap.lt_size e) (Nat.lt_irrefl _)

end
section
variable {prog : Program} {w : World} {A : Around} {E : Value → Shared → Prop} {s : Shared}
theorem call_set {l : Addr} {vs : List Value} {ns : List Int} {Q : Value → Shared → Prop} (hh : A.handled = none) (hl : s.heap.IsList l vs.toArray) (hi : IntsAre vs ns) (hnd : ns.Nodup) (hb : ns.length + 1 < scanBound)
    (h : ∀ (h' : Heap) (tk : Nat) (es : List (Int × Value)), SetIs w h' s.heap.objs.size es → IntsAre (es.map (·.2)) ns → (∀ b o, b < s.heap.objs.size → s.heap.get? b = some o → h'.get? b = some o) → Q (.ref s.heap.objs.size) { s with heap := h', toks := tk }) :
    wpAny (model prog w) A (call (.type "set") [.ref l]) Q E s := by
  refine call_type PySem.F.called_set (PySem.F.typeCall_set_1 (.ref l)) (code_new_set (.ref l) (E := E) (Q₁ := fun obj s₁ => ∃ led : Bool, led = (!w.params.followText "set-order") ∧ obj = .ref s.heap.objs.size ∧ s₁ = { s with heap := s.heap.push { cls := .type "set", dict := none, data := .set #[] 0 (.fresh 0 0 led) } }) fun led e => ⟨led, e, rfl, rfl⟩) ?_
  rintro obj s₁ ⟨led, hled, rfl, rfl⟩
  have hlt : l < s.heap.objs.size := by obtain ⟨o, ho, _⟩ := hl; exact Heap.lt_size ho
  refine ⟨⟨_, Heap.get?_push_size _ rfl, rfl⟩, ?_⟩
  refine set_init (led := led) (by simpa using hh) (hl.push _) (Nat.ne_of_lt hlt) hi hnd hb (Heap.get?_push_size _ rfl) hled fun h' tk es hS hE hk => ⟨rfl, ?_⟩
  exact h h' tk es hS hE fun b o hb e => hk b o (Nat.ne_of_lt hb) (Heap.get?_push_of_some _ e)
end

end
section
theorem slot_setit : Slot "set" "__iter__" "set.__iter__" :=
  .of (owner := "set") (n := "__iter__") (by rw [typeLookup_type, builtinLookup_eq_fast]; kernel_rfl) (by decide +kernel) (by decide +kernel) (by decide +kernel)
    (by first | exact .inl (by decide +kernel) | exact .inr (by decide +kernel)) (by rw [isSubtype_type]; kernel_rfl)
theorem entry_setit : entryFor table "set.__iter__" = some Builtin.«frozenset.__iter__» :=
  entryFor_alias (id' := "frozenset.__iter__") (by kernel_rfl) rfl (by decide +kernel) (by kernel_rfl)
theorem args_setit (a : Value) : argsOk "set.__iter__" ⟨[a], []⟩ := by
  unfold argsOk; rw [signature?_of (id := "set.__iter__") (n := ['_', '_', 'r', 'e', 't', 'i', '_', '_']) (o := ['t', 'e', 's']) (by kernel_rfl) PySem.F.owner_set]; kernel_rfl
theorem slot_setnx : Slot "set_iterator" "__next__" "set_iterator.__next__" :=
  .of (owner := "set_iterator") (n := "__next__") (by rw [typeLookup_type, builtinLookup_eq_fast]; kernel_rfl) (by decide +kernel) (by decide +kernel) (by decide +kernel)
    (by first | exact .inl (by decide +kernel) | exact .inr (by decide +kernel)) (by rw [isSubtype_type]; kernel_rfl)
theorem entry_setnx : entryFor table "set_iterator.__next__" = some Builtin.«set_iterator.__next__» := entryFor_of_tree (by kernel_rfl)
theorem owner_setit : Manifest.owners.lookup (String.ofList ['r', 'o', 't', 'a', 'r', 'e', 't', 'i', '_', 't', 'e', 's'].reverse) = some Manifest.sig_set_iterator := by kernel_rfl
theorem args_setnx (a : Value) : argsOk "set_iterator.__next__" ⟨[a], []⟩ := by
  unfold argsOk; rw [signature?_of (id := "set_iterator.__next__") (n := ['_', '_', 't', 'x', 'e', 'n', '_', '_']) (o := ['r', 'o', 't', 'a', 'r', 'e', 't', 'i', '_', 't', 'e', 's']) (by kernel_rfl) owner_setit]; kernel_rfl

end
section
def IsIt (h : Heap) (I : Addr) (first : Value) (i : Nat) (a : Addr) (n ep : Nat) : Prop := ∃ o, h.get? I = some o ∧ o.cls = .type "set_iterator" ∧ o.data = .fields #[first, .int (i : Int) 0, .ref a, .int (n : Int) 0, .int (ep : Int) 0]
def SetRaw (h : Heap) (a : Addr) (arr : Array (Int × Value)) (ep : Nat) (t : SetTable) : Prop := ∃ o, h.get? a = some o ∧ o.data = .set arr ep t
section
variable {prog : Program} {w : World} {A : Around} {E : Value → Shared → Prop} {s : Shared} {I a : Addr} {arr : Array (Int × Value)} {ep i : Nat} {t : SetTable}
theorem nx_slot {sl : Nat} {Q : Option Value → Shared → Prop} (hb : w.params.followText "set-order" = false) (hl : t.led = true) (hr : Ris t.place) (hf : t.fits arr.size = true) (hdr : (!t.plain && decide (arr.size > 1)) = false)
    (hit : IsIt s.heap I (.int (sl : Int) 0) i a arr.size ep) (hm : SetRaw s.heap a arr ep t) (hsl : SetTable.below t.place sl = i) (hi : i < arr.size)
    (hQ : ∀ h', IsIt h' I (.int ((t.place.getD i 0 + 1 : Nat) : Int) 0) (i + 1) a arr.size ep → Heap.SameBut I s.heap h' → Q (some arr[i].2) { s with heap := h' }) : wpAny (model prog w) A (pyNext (.ref I)) Q E s := by
  obtain ⟨o, ho, hc, hd⟩ := id hit
  obtain ⟨od, hod, hdd⟩ := id hm
  unfold pyNext
  refine wpAny_bind (wpAny_attempt (wpAny_callSpecial?_slot (name := Str.ofString "__next__") ⟨o, ho, hc⟩ slot_setnx (wpAny_call_entry slot_setnx ⟨o, ho, hc⟩ entry_setnx ?_ (args_setnx _))))
  unfold Builtin.«set_iterator.__next__»
  refine wpAny_bind (wpAny_pure ?_)
  refine wpAny_bind (wpAny_fieldsOf ho hd ?_)
  show wpAny _ _ (setEntries a >>= _) _ _ s
  refine wpAny_bind (wpAny_setEntries_of hod hdd hf ?_)
  rw [if_neg (by simp)]
  show wpAny _ _ (setNext a (sl : Int).toNat (i : Int).toNat (ep : Int).toNat >>= _) _ _ s
  refine wpAny_bind ?_
  unfold setNext setsByText
  refine wpAny_bind (wpAny_setState_of hod hdd hf ?_)
  refine wpAny_bind (wpAny_bind (wpAny_askSetting (wpAny_pure ?_)))
  dsimp only
  rw [if_neg (by show ¬ w.params.followText "set-order" = true; rw [hb]; exact Bool.false_ne_true)]
  show wpAny _ _ (if (!t.plain && decide (arr.size > 1)) = true then _ else _) _ _ _
  rw [if_neg (by rw [hdr]; exact Bool.false_ne_true)]
  show wpAny _ _ ((if (!t.led && !arr.isEmpty) = true then unsupported _ else pure ()) >>= _) _ _ _
  rw [if_neg (by rw [hl]; exact Bool.false_ne_true)]
  refine wpAny_bind (wpAny_pure ?_)
  have hps : t.place.size = arr.size := by
    simp only [SetTable.fits, Bool.and_eq_true, beq_iff_eq] at hf
    exact hf.1
  have hip : i < t.place.size := by omega
  have e1 : arr[SetTable.below t.place (sl : Int).toNat]? = some arr[i] := by rw [Int.toNat_natCast, hsl]; exact Array.getElem?_eq_getElem hi
  have e2 : t.place[SetTable.below t.place (sl : Int).toNat]? = some t.place[i] := by rw [Int.toNat_natCast, hsl]; exact Array.getElem?_eq_getElem hip
  have e3 : t.place[i] = t.place.getD i 0 := by rw [Array.getD_eq_getD_getElem?, Array.getElem?_eq_getElem hip]; rfl
  refine wpAny_pure ?_
  rw [e1, e2, e3]
  show wpAny _ _ (setField (.ref I) 0 (rawInt ((t.place.getD i 0 + 1 : Nat) : Int)) >>= _) _ _ s
  refine wpAny_bind (wpAny_setField ho hd (by simp) ?_)
  have h1 : (s.heap.update I (Obj.mapFields (·.setIfInBounds 0 (rawInt ((t.place.getD i 0 + 1 : Nat) : Int))))).get? I = some (Obj.mapFields (·.setIfInBounds 0 (rawInt ((t.place.getD i 0 + 1 : Nat) : Int))) o) := Heap.get?_update_self _ ho (Obj.isFreed_of_fields (Obj.data_mapFields hd _))
  have h1d : (Obj.mapFields (·.setIfInBounds 0 (rawInt ((t.place.getD i 0 + 1 : Nat) : Int))) o).data = .fields #[rawInt ((t.place.getD i 0 + 1 : Nat) : Int), .int (i : Int) 0, .ref a, .int (arr.size : Int) 0, .int (ep : Int) 0] := by rw [Obj.data_mapFields hd]; simp
  refine wpAny_bind (wpAny_setField h1 h1d (by simp) ?_)
  refine wpAny_pure ⟨_, rfl, ?_⟩
  exact wpAny_pure (hQ _ ⟨_, Heap.get?_update_self _ h1 (Obj.isFreed_of_fields (Obj.data_mapFields h1d _)), (Obj.cls_mapFields ..).trans ((Obj.cls_mapFields ..).trans hc), by rw [Obj.data_mapFields h1d]; simp [rawInt]⟩ ((Heap.SameBut.update ..).trans (Heap.SameBut.update ..)))
end

end
section
theorem erase_perm {α : Type} : ∀ {l : List α} {i : Nat} (h : i < l.length), (l[i] :: l.eraseIdx i).Perm l
  | _ :: _, 0, _ => .rfl
  | x :: r, i + 1, h => by
    have h' : i < r.length := by simpa using h
    exact (List.Perm.swap x r[i] (r.eraseIdx i)).trans ((erase_perm h').cons x)
theorem wpAny_pick {M : Model} {A : Around} {E : Value → Shared → Prop} {s : Shared} {src : Source} {n : Nat} {Q : Nat → Shared → Prop} (hn : n ≠ 0) (h : ∀ r dr, r < n → Q r { s with drawn := dr }) : wpAny M A (choose src n) Q E s := fun Γ p hΓ => by
  show Sem.wp M Γ (.choose src n .pure) _ _ p s
  rw [Sem.wp_choose]
  exact ⟨hn, h _ _ (Nat.mod_lt _ (Nat.pos_of_ne_zero hn))⟩
theorem wpAny_drawOrder {α : Type} {M : Model} {A : Around} {E : Value → Shared → Prop} : ∀ (n : Nat) (xs : List α) (s : Shared) (Q : List α → Shared → Prop), xs.length = n → (∀ ys dr, ys.Perm xs → Q ys { s with drawn := dr }) → wpAny M A (drawOrder n xs) Q E s
  | 0, xs, s, Q, hl, h => by
    unfold drawOrder
    have : xs = [] := List.eq_nil_of_length_eq_zero hl
    subst this
    exact wpAny_pure (h [] s.drawn .rfl)
  | n + 1, xs, s, Q, hl, h => by
    cases xs with
    | nil => exact nomatch hl
    | cons x r =>
      unfold drawOrder
      refine wpAny_bind (wpAny_pick (by simp) fun i dr hi => ?_)
      rw [List.getElem?_eq_getElem hi]
      dsimp only
      refine wpAny_bind (wpAny_drawOrder n ((x :: r).eraseIdx i) _ _ (by rw [List.length_eraseIdx, if_pos hi]; simpa using hl) fun ys dr' hp => ?_)
      refine wpAny_pure (h _ dr' ?_)
      exact (hp.cons _).trans (erase_perm hi)
theorem pick_go {α : Type} (next : Nat → Nat) : ∀ (fuel k : Nat) (left : List α) (out : Array α), left.length = fuel → (pickOrder.go next fuel k left out).toList.Perm (out.toList ++ left)
  | 0, k, left, out, hl => by
    unfold pickOrder.go
    have : left = [] := List.eq_nil_of_length_eq_zero hl
    subst this
    simp
  | fuel + 1, k, left, out, hl => by
    unfold pickOrder.go
    have hlt : next k % left.length < left.length := Nat.mod_lt _ (by omega)
    rw [List.getElem?_eq_getElem hlt]
    dsimp only
    refine (pick_go next fuel (k + 1) _ _ (by rw [List.length_eraseIdx, if_pos hlt]; omega)).trans ?_
    rw [Array.toList_push, List.append_assoc]
    exact (erase_perm hlt).append_left _
theorem pick_perm {α : Type} (next : Nat → Nat) (xs : Array α) : (pickOrder next xs).toList.Perm xs.toList := by
  have := pick_go next xs.size 0 xs.toList #[] (by simp)
  simpa [pickOrder] using this
section
variable {prog : Program} {w : World} {A : Around} {E : Value → Shared → Prop} {s : Shared} {I a T9 : Addr} {arr : Array (Int × Value)} {ep i : Nat} {t : SetTable}
theorem nx_text {Q : Option Value → Shared → Prop} (hb : w.params.followText "set-order" = true) (hf : t.fits arr.size = true)
    (hit : IsIt s.heap I (.int ((0 : Nat) : Int) 0) i a arr.size ep) (hm : SetRaw s.heap a arr ep t) {x : Int × Value} (hi : (pickOrder (w.params.setOrder a ep) arr)[i]? = some x)
    (hQ : ∀ h', IsIt h' I (.int ((0 : Nat) : Int) 0) (i + 1) a arr.size ep → Heap.SameBut I s.heap h' → Q (some x.2) { s with heap := h' }) : wpAny (model prog w) A (pyNext (.ref I)) Q E s := by
  obtain ⟨o, ho, hc, hd⟩ := id hit
  obtain ⟨od, hod, hdd⟩ := id hm
  unfold pyNext
  refine wpAny_bind (wpAny_attempt (wpAny_callSpecial?_slot (name := Str.ofString "__next__") ⟨o, ho, hc⟩ slot_setnx (wpAny_call_entry slot_setnx ⟨o, ho, hc⟩ entry_setnx ?_ (args_setnx _))))
  unfold Builtin.«set_iterator.__next__»
  refine wpAny_bind (wpAny_pure ?_)
  refine wpAny_bind (wpAny_fieldsOf ho hd ?_)
  show wpAny _ _ (setEntries a >>= _) _ _ s
  refine wpAny_bind (wpAny_setEntries_of hod hdd hf ?_)
  rw [if_neg (by simp)]
  show wpAny _ _ (setNext a ((0 : Nat) : Int).toNat (i : Int).toNat (ep : Int).toNat >>= _) _ _ s
  refine wpAny_bind ?_
  unfold setNext setsByText
  refine wpAny_bind (wpAny_setState_of hod hdd hf ?_)
  refine wpAny_bind (wpAny_bind (wpAny_askSetting (wpAny_pure ?_)))
  dsimp only
  rw [if_pos (by exact hb), if_neg (by simp)]
  refine wpAny_bind ?_
  unfold setWalk setsByText
  refine wpAny_bind (wpAny_setState_of hod hdd hf ?_)
  refine wpAny_bind (wpAny_bind (wpAny_askSetting (wpAny_pure ?_)))
  dsimp only
  rw [if_pos (by exact hb)]
  refine wpAny_bind (wpAny_askSetting (wpAny_pure ?_))
  refine wpAny_pure ?_
  show wpAny _ _ (match Option.map (fun e : Int × Value => (e.2, ((0 : Nat) : Int).toNat)) (pickOrder (w.params.setOrder a ep) arr)[(i : Int).toNat]? with | some (x, next) => _ | none => _) _ _ s
  rw [Int.toNat_natCast i, hi]
  show wpAny _ _ (setField (.ref I) 0 (rawInt ((0 : Nat) : Int)) >>= _) _ _ s
  refine wpAny_bind (wpAny_setField ho hd (by simp) ?_)
  have h1 : (s.heap.update I (Obj.mapFields (·.setIfInBounds 0 (rawInt ((0 : Nat) : Int))))).get? I = some (Obj.mapFields (·.setIfInBounds 0 (rawInt ((0 : Nat) : Int))) o) := Heap.get?_update_self _ ho (Obj.isFreed_of_fields (Obj.data_mapFields hd _))
  have h1d : (Obj.mapFields (·.setIfInBounds 0 (rawInt ((0 : Nat) : Int))) o).data = .fields #[rawInt ((0 : Nat) : Int), .int (i : Int) 0, .ref a, .int (arr.size : Int) 0, .int (ep : Int) 0] := by rw [Obj.data_mapFields hd]; simp
  refine wpAny_bind (wpAny_setField h1 h1d (by simp) ?_)
  refine wpAny_pure ⟨_, rfl, ?_⟩
  exact wpAny_pure (hQ _ ⟨_, Heap.get?_update_self _ h1 (Obj.isFreed_of_fields (Obj.data_mapFields h1d _)), (Obj.cls_mapFields ..).trans ((Obj.cls_mapFields ..).trans hc), by rw [Obj.data_mapFields h1d]; simp [rawInt]⟩ ((Heap.SameBut.update ..).trans (Heap.SameBut.update ..)))
theorem nx_drawn {pl : List Nat} {Q : Option Value → Shared → Prop} (hf : t.fits arr.size = true)
    (hit : IsIt s.heap I (.ref T9) i a arr.size ep) (ht : ∃ o k, s.heap.get? T9 = some o ∧ o.data = .seq (pl.map fun j : Nat => rawInt (j : Int)).toArray k) (hm : SetRaw s.heap a arr ep t) {j : Nat} {x : Int × Value} (hj : pl[i]? = some j) (hi : arr[j]? = some x)
    (hQ : ∀ h', IsIt h' I (.ref T9) (i + 1) a arr.size ep → Heap.SameBut I s.heap h' → Q (some x.2) { s with heap := h' }) : wpAny (model prog w) A (pyNext (.ref I)) Q E s := by
  obtain ⟨o, ho, hc, hd⟩ := id hit
  obtain ⟨od, hod, hdd⟩ := id hm
  obtain ⟨ot, k, hot, hdt⟩ := ht
  unfold pyNext
  refine wpAny_bind (wpAny_attempt (wpAny_callSpecial?_slot (name := Str.ofString "__next__") ⟨o, ho, hc⟩ slot_setnx (wpAny_call_entry slot_setnx ⟨o, ho, hc⟩ entry_setnx ?_ (args_setnx _))))
  unfold Builtin.«set_iterator.__next__»
  refine wpAny_bind (wpAny_pure ?_)
  refine wpAny_bind (wpAny_fieldsOf ho hd ?_)
  show wpAny _ _ (setEntries a >>= _) _ _ s
  refine wpAny_bind (wpAny_setEntries_of hod hdd hf ?_)
  rw [if_neg (by simp)]
  show wpAny _ _ (seqItems? (.ref T9) >>= _) _ _ s
  refine wpAny_bind (wpAny_seqItems hot hdt ?_)
  have e1 : (pl.map fun j : Nat => rawInt (j : Int)).toArray[(i : Int).toNat]? = some (rawInt (j : Int)) := by
    rw [Int.toNat_natCast, List.getElem?_toArray, List.getElem?_map, hj]; rfl
  dsimp only
  rw [e1]
  show wpAny _ _ (setNextDrawn a (j : Int).toNat (ep : Int).toNat >>= _) _ _ s
  refine wpAny_bind ?_
  unfold setNextDrawn
  refine wpAny_bind (wpAny_setState_of hod hdd hf ?_)
  dsimp only
  rw [if_neg (by simp)]
  rw [Int.toNat_natCast j, hi]
  refine wpAny_pure ?_
  show wpAny _ _ (setField (.ref I) 1 (rawInt ((i : Int) + 1)) >>= _) _ _ s
  refine wpAny_bind (wpAny_setField ho hd (by simp) ?_)
  refine wpAny_pure ⟨_, rfl, ?_⟩
  exact wpAny_pure (hQ _ ⟨_, Heap.get?_update_self _ ho (Obj.isFreed_of_fields (Obj.data_mapFields hd _)), (Obj.cls_mapFields ..).trans hc, by rw [Obj.data_mapFields hd]; simp [rawInt]⟩ (Heap.SameBut.update ..))
end

end
section
theorem slot_itit : Slot "set_iterator" "__iter__" "set_iterator.__iter__" :=
  .of (owner := "set_iterator") (n := "__iter__") (by rw [typeLookup_type, builtinLookup_eq_fast]; kernel_rfl) (by decide +kernel) (by decide +kernel) (by decide +kernel)
    (by first | exact .inl (by decide +kernel) | exact .inr (by decide +kernel)) (by rw [isSubtype_type]; kernel_rfl)
theorem entry_itit : entryFor table "set_iterator.__iter__" = some Builtin.«dict_keyiterator.__iter__» :=
  entryFor_alias (id' := "dict_keyiterator.__iter__") (by kernel_rfl) rfl (by decide +kernel) (by kernel_rfl)
theorem args_itit (a : Value) : argsOk "set_iterator.__iter__" ⟨[a], []⟩ := by
  unfold argsOk; rw [signature?_of (id := "set_iterator.__iter__") (n := ['_', '_', 'r', 'e', 't', 'i', '_', '_']) (o := ['r', 'o', 't', 'a', 'r', 'e', 't', 'i', '_', 't', 'e', 's']) (by kernel_rfl) owner_setit]; kernel_rfl
section
variable {prog : Program} {w : World} {A : Around} {E : Value → Shared → Prop} {s : Shared} {I a T9 : Addr} {arr : Array (Int × Value)} {ep i : Nat} {t : SetTable}
theorem it_self {first : Value} {n : Nat} {Q : Value → Shared → Prop} (hit : IsIt s.heap I first i a n ep) (h : Q (.ref I) s) : wpAny (model prog w) A (pyIter (.ref I)) Q E s := by
  obtain ⟨o, ho, hc, hd⟩ := hit
  refine wpAny_pyIter_slot ⟨o, ho, hc⟩ slot_itit (wpAny_call_entry slot_itit ⟨o, ho, hc⟩ entry_itit ?_ (args_itit _))
  show wpAny _ _ (ret (.ref I)) _ _ s
  exact wpAny_pure ⟨_, rfl, "set_iterator", _, ⟨o, ho, hc⟩, slot_setnx.lookup, h⟩
theorem stop_end {Q : Option Value → Shared → Prop} {QQ : Fin → Shared → Prop} (hh : A.handled = none) (hQ : ∀ h', (∀ b o, s.heap.get? b = some o → h'.get? b = some o) → Q none { s with heap := h' }) :
    wpAny (model prog w) A.in1 (newExc (.type "StopIteration") [] >>= fun e => raiseNew e) QQ (fun e s' => wpAny (model prog w) A (do if ← isInstance e (.type "StopIteration") then pure none else throw e) Q E s') s := by
  refine wpAny_bind ?_
  simp only [newExc, newTuple]
  refine wpAny_bind (wpAny_newObj_type ?_ (by size_fits))
  refine wpAny_bind (m := firstArgMember _ _) (wpAny_of_eq (a := Value.none) (by first | rfl | (simp only [firstArgMember]; rfl)) ?_)
  refine wpAny_newObj_type ?_ (by size_fits)
  simp only [raiseNew]
  refine wpAny_bind (wpAny_handled ?_)
  rw [show A.in1.handled = none from hh]
  refine wpAny_bind (wpAny_pure (wpAny_throw ?_))
  refine wpAny_bind (wpAny_isInstance (T := "StopIteration") (b := true) ⟨_, Heap.get?_push_size _ rfl, rfl⟩ isSubtype_stop ?_)
  exact wpAny_pure (hQ _ fun b o e => Heap.get?_push_of_some _ (Heap.get?_push_of_some _ e))
theorem nx_slot_end {sl : Nat} {Q : Option Value → Shared → Prop} (hh : A.handled = none) (hb : w.params.followText "set-order" = false) (hl : t.led = true) (hf : t.fits arr.size = true) (hdr : (!t.plain && decide (arr.size > 1)) = false)
    (hit : IsIt s.heap I (.int (sl : Int) 0) i a arr.size ep) (hm : SetRaw s.heap a arr ep t) (hsl : SetTable.below t.place sl = arr.size)
    (hQ : ∀ h', (∀ b o, b ≠ I → s.heap.get? b = some o → h'.get? b = some o) → Q none { s with heap := h' }) : wpAny (model prog w) A (pyNext (.ref I)) Q E s := by
  obtain ⟨o, ho, hc, hd⟩ := id hit
  obtain ⟨od, hod, hdd⟩ := id hm
  unfold pyNext
  refine wpAny_bind (wpAny_attempt (wpAny_callSpecial?_slot (name := Str.ofString "__next__") ⟨o, ho, hc⟩ slot_setnx (wpAny_call_entry slot_setnx ⟨o, ho, hc⟩ entry_setnx ?_ (args_setnx _))))
  unfold Builtin.«set_iterator.__next__»
  refine wpAny_bind (wpAny_pure ?_)
  refine wpAny_bind (wpAny_fieldsOf ho hd ?_)
  show wpAny _ _ (setEntries a >>= _) _ _ s
  refine wpAny_bind (wpAny_setEntries_of hod hdd hf ?_)
  rw [if_neg (by simp)]
  show wpAny _ _ (setNext a (sl : Int).toNat (i : Int).toNat (ep : Int).toNat >>= _) _ _ s
  refine wpAny_bind ?_
  unfold setNext setsByText
  refine wpAny_bind (wpAny_setState_of hod hdd hf ?_)
  refine wpAny_bind (wpAny_bind (wpAny_askSetting (wpAny_pure ?_)))
  dsimp only
  rw [if_neg (by show ¬ w.params.followText "set-order" = true; rw [hb]; exact Bool.false_ne_true)]
  show wpAny _ _ (if (!t.plain && decide (arr.size > 1)) = true then _ else _) _ _ _
  rw [if_neg (by rw [hdr]; exact Bool.false_ne_true)]
  show wpAny _ _ ((if (!t.led && !arr.isEmpty) = true then unsupported _ else pure ()) >>= _) _ _ _
  rw [if_neg (by rw [hl]; exact Bool.false_ne_true)]
  refine wpAny_bind (wpAny_pure ?_)
  have e1 : arr[SetTable.below t.place (sl : Int).toNat]? = none := by rw [Int.toNat_natCast, hsl]; exact Array.getElem?_eq_none (Nat.le_refl _)
  refine wpAny_pure ?_
  rw [e1]
  show wpAny _ _ (setField (.ref I) 2 .none >>= _) _ _ s
  refine wpAny_bind (wpAny_setField ho hd (by simp) ?_)
  refine stop_end hh fun h' hk => hQ h' fun b o hb e => hk b o ?_
  exact (Heap.get?_update_other _ _ (Ne.symm hb)).trans e
theorem nx_text_end {Q : Option Value → Shared → Prop} (hh : A.handled = none) (hb : w.params.followText "set-order" = true) (hf : t.fits arr.size = true)
    (hit : IsIt s.heap I (.int ((0 : Nat) : Int) 0) i a arr.size ep) (hm : SetRaw s.heap a arr ep t) (hi : (pickOrder (w.params.setOrder a ep) arr)[i]? = none)
    (hQ : ∀ h', (∀ b o, b ≠ I → s.heap.get? b = some o → h'.get? b = some o) → Q none { s with heap := h' }) : wpAny (model prog w) A (pyNext (.ref I)) Q E s := by
  obtain ⟨o, ho, hc, hd⟩ := id hit
  obtain ⟨od, hod, hdd⟩ := id hm
  unfold pyNext
  refine wpAny_bind (wpAny_attempt (wpAny_callSpecial?_slot (name := Str.ofString "__next__") ⟨o, ho, hc⟩ slot_setnx (wpAny_call_entry slot_setnx ⟨o, ho, hc⟩ entry_setnx ?_ (args_setnx _))))
  unfold Builtin.«set_iterator.__next__»
  refine wpAny_bind (wpAny_pure ?_)
  refine wpAny_bind (wpAny_fieldsOf ho hd ?_)
  show wpAny _ _ (setEntries a >>= _) _ _ s
  refine wpAny_bind (wpAny_setEntries_of hod hdd hf ?_)
  rw [if_neg (by simp)]
  show wpAny _ _ (setNext a ((0 : Nat) : Int).toNat (i : Int).toNat (ep : Int).toNat >>= _) _ _ s
  refine wpAny_bind ?_
  unfold setNext setsByText
  refine wpAny_bind (wpAny_setState_of hod hdd hf ?_)
  refine wpAny_bind (wpAny_bind (wpAny_askSetting (wpAny_pure ?_)))
  dsimp only
  rw [if_pos (by exact hb), if_neg (by simp)]
  refine wpAny_bind ?_
  unfold setWalk setsByText
  refine wpAny_bind (wpAny_setState_of hod hdd hf ?_)
  refine wpAny_bind (wpAny_bind (wpAny_askSetting (wpAny_pure ?_)))
  dsimp only
  rw [if_pos (by exact hb)]
  refine wpAny_bind (wpAny_askSetting (wpAny_pure ?_))
  refine wpAny_pure ?_
  show wpAny _ _ (match Option.map (fun e : Int × Value => (e.2, ((0 : Nat) : Int).toNat)) (pickOrder (w.params.setOrder a ep) arr)[(i : Int).toNat]? with | some (x, next) => _ | none => _) _ _ s
  rw [Int.toNat_natCast i, hi]
  show wpAny _ _ (setField (.ref I) 2 .none >>= _) _ _ s
  refine wpAny_bind (wpAny_setField ho hd (by simp) ?_)
  refine stop_end hh fun h' hk => hQ h' fun b o hb e => hk b o ?_
  exact (Heap.get?_update_other _ _ (Ne.symm hb)).trans e
theorem nx_drawn_end {pl : List Nat} {Q : Option Value → Shared → Prop} (hh : A.handled = none) (hf : t.fits arr.size = true)
    (hit : IsIt s.heap I (.ref T9) i a arr.size ep) (ht : ∃ o k, s.heap.get? T9 = some o ∧ o.data = .seq (pl.map fun j : Nat => rawInt (j : Int)).toArray k) (hm : SetRaw s.heap a arr ep t) (hj : pl[i]? = none)
    (hQ : ∀ h', (∀ b o, b ≠ I → s.heap.get? b = some o → h'.get? b = some o) → Q none { s with heap := h' }) : wpAny (model prog w) A (pyNext (.ref I)) Q E s := by
  obtain ⟨o, ho, hc, hd⟩ := id hit
  obtain ⟨od, hod, hdd⟩ := id hm
  obtain ⟨ot, k, hot, hdt⟩ := ht
  unfold pyNext
  refine wpAny_bind (wpAny_attempt (wpAny_callSpecial?_slot (name := Str.ofString "__next__") ⟨o, ho, hc⟩ slot_setnx (wpAny_call_entry slot_setnx ⟨o, ho, hc⟩ entry_setnx ?_ (args_setnx _))))
  unfold Builtin.«set_iterator.__next__»
  refine wpAny_bind (wpAny_pure ?_)
  refine wpAny_bind (wpAny_fieldsOf ho hd ?_)
  show wpAny _ _ (setEntries a >>= _) _ _ s
  refine wpAny_bind (wpAny_setEntries_of hod hdd hf ?_)
  rw [if_neg (by simp)]
  show wpAny _ _ (seqItems? (.ref T9) >>= _) _ _ s
  refine wpAny_bind (wpAny_seqItems hot hdt ?_)
  have e1 : (pl.map fun j : Nat => rawInt (j : Int)).toArray[(i : Int).toNat]? = none := by
    rw [Int.toNat_natCast, List.getElem?_toArray, List.getElem?_map, hj]; rfl
  dsimp only
  rw [e1]
  show wpAny _ _ (setField (.ref I) 0 (rawInt 0) >>= _) _ _ s
  refine wpAny_bind (wpAny_setField ho hd (by simp) ?_)
  have h1 : (s.heap.update I (Obj.mapFields (·.setIfInBounds 0 (rawInt 0)))).get? I = some (Obj.mapFields (·.setIfInBounds 0 (rawInt 0)) o) := Heap.get?_update_self _ ho (Obj.isFreed_of_fields (Obj.data_mapFields hd _))
  have h1d : (Obj.mapFields (·.setIfInBounds 0 (rawInt 0)) o).data = .fields #[rawInt 0, .int (i : Int) 0, .ref a, .int (arr.size : Int) 0, .int (ep : Int) 0] := by rw [Obj.data_mapFields hd]; simp
  refine wpAny_bind (wpAny_setField h1 h1d (by simp) ?_)
  refine stop_end hh fun h' hk => hQ h' fun b o hb e => hk b o ?_
  exact (Heap.get?_update_other _ _ (Ne.symm hb)).trans ((Heap.get?_update_other _ _ (Ne.symm hb)).trans e)
theorem IsIt.at {h h' : Heap} {first : Value} {n : Nat} (x : IsIt h I first i a n ep) (e : ∀ o, h.get? I = some o → h'.get? I = some o) : IsIt h' I first i a n ep := let ⟨o, ho, r⟩ := x; ⟨o, e _ ho, r⟩
theorem SetRaw.at {h h' : Heap} (x : SetRaw h a arr ep t) (e : ∀ o, h.get? a = some o → h'.get? a = some o) : SetRaw h' a arr ep t := let ⟨o, ho, r⟩ := x; ⟨o, e _ ho, r⟩
theorem walk_slot (hh : A.handled = none) (hb : w.params.followText "set-order" = false) (hl : t.led = true) (hr : Ris t.place) (hf : t.fits arr.size = true) (hdr : (!t.plain && decide (arr.size > 1)) = false) (hne : a ≠ I) :
    Walks prog w A I [I, a] [I] arr.size (fun i v => (arr.toList.map (·.2))[i]? = some v) (fun i h => (∃ sl : Nat, IsIt h I (.int (sl : Int) 0) i a arr.size ep ∧ SetTable.below t.place sl = i) ∧ SetRaw h a arr ep t) where
  sub := fun b hb => by simp at hb; simp [hb]
  frame := fun _ _ _ ⟨⟨sl, h1, h2⟩, h3⟩ hk => ⟨⟨sl, h1.at fun o e => hk I (by simp) o e, h2⟩, h3.at fun o e => hk a (by simp) o e⟩
  item := fun i s Q E hi ⟨⟨sl, h1, h2⟩, h3⟩ hQ => by
    refine nx_slot hb hl hr hf hdr h1 h3 h2 hi fun h' hit' hs' => ?_
    have hps : t.place.size = arr.size := by
      simp only [SetTable.fits, Bool.and_eq_true, beq_iff_eq] at hf
      exact hf.1
    exact hQ _ h' s.toks (by rw [List.getElem?_map, Array.getElem?_toList, Array.getElem?_eq_getElem hi]; rfl) ⟨⟨_, hit', below_next _ hr (by omega)⟩, h3.at fun o e => hs'.extBut a o hne e⟩ fun b o hb' e => hs'.extBut b o (fun h => hb' (by simp [h])) e
  done := fun s Q E ⟨⟨sl, h1, h2⟩, h3⟩ hQ => nx_slot_end hh hb hl hf hdr h1 h3 h2 fun h' hk => hQ h' s.toks fun b o hb' e => hk b o (fun h => hb' (by simp [h])) e
  self := fun _ _ _ _ ⟨⟨_, h1, _⟩, _⟩ hQ => it_self h1 hQ
theorem walk_text (hh : A.handled = none) (hb : w.params.followText "set-order" = true) (hf : t.fits arr.size = true) (hne : a ≠ I) :
    Walks prog w A I [I, a] [I] arr.size (fun i v => ((pickOrder (w.params.setOrder a ep) arr).toList.map (·.2))[i]? = some v) (fun i h => IsIt h I (.int ((0 : Nat) : Int) 0) i a arr.size ep ∧ SetRaw h a arr ep t) where
  sub := fun b hb => by simp at hb; simp [hb]
  frame := fun _ _ _ ⟨h1, h3⟩ hk => ⟨h1.at fun o e => hk I (by simp) o e, h3.at fun o e => hk a (by simp) o e⟩
  item := fun i s Q E hi ⟨h1, h3⟩ hQ => by
    have hsz : (pickOrder (w.params.setOrder a ep) arr).size = arr.size := by have := (pick_perm (w.params.setOrder a ep) arr).length_eq; simpa using this
    have hx : (pickOrder (w.params.setOrder a ep) arr)[i]? = some (pickOrder (w.params.setOrder a ep) arr)[i] := Array.getElem?_eq_getElem (by omega)
    refine nx_text hb hf h1 h3 hx fun h' hit' hs' => ?_
    exact hQ _ h' s.toks (by rw [List.getElem?_map, Array.getElem?_toList, hx]; rfl) ⟨hit', h3.at fun o e => hs'.extBut a o hne e⟩ fun b o hb' e => hs'.extBut b o (fun h => hb' (by simp [h])) e
  done := fun s Q E ⟨h1, h3⟩ hQ => by
    have hsz : (pickOrder (w.params.setOrder a ep) arr).size = arr.size := by have := (pick_perm (w.params.setOrder a ep) arr).length_eq; simpa using this
    exact nx_text_end hh hb hf h1 h3 (Array.getElem?_eq_none (by omega)) fun h' hk => hQ h' s.toks fun b o hb' e => hk b o (fun h => hb' (by simp [h])) e
  self := fun _ _ _ _ ⟨h1, _⟩ hQ => it_self h1 hQ
theorem walk_drawn {pl : List Nat} (hh : A.handled = none) (hf : t.fits arr.size = true) (hpl : pl.Perm (List.range arr.size)) (hne : a ≠ I) (hne2 : T9 ≠ I) :
    Walks prog w A I [I, a, T9] [I] arr.size (fun i v => ((pl.filterMap fun j => arr[j]?).map (·.2))[i]? = some v) (fun i h => IsIt h I (.ref T9) i a arr.size ep ∧ (∃ o k, h.get? T9 = some o ∧ o.data = .seq (pl.map fun j : Nat => rawInt (j : Int)).toArray k) ∧ SetRaw h a arr ep t) where
  sub := fun b hb => by simp at hb; simp [hb]
  frame := fun _ _ _ ⟨h1, ⟨o, k, h4, h5⟩, h3⟩ hk => ⟨h1.at fun o e => hk I (by simp) o e, ⟨o, k, hk T9 (by simp) o h4, h5⟩, h3.at fun o e => hk a (by simp) o e⟩
  item := fun i s Q E hi ⟨h1, ⟨o, k, h4, h5⟩, h3⟩ hQ => by
    have hlen : pl.length = arr.size := by have := hpl.length_eq; simpa using this
    have hall : ∀ j ∈ pl, j < arr.size := fun j hj => List.mem_range.mp (hpl.mem_iff.mp hj)
    have hfm : ∀ (l : List Nat), (∀ j ∈ l, j < arr.size) → ∀ i : Nat, (l.filterMap fun j => arr[j]?)[i]? = (l[i]?).bind fun j => arr[j]? := by
      intro l
      induction l with
      | nil => intro _ i; rfl
      | cons x r ih =>
        intro hl i
        have hx := hl x (.head _)
        rw [List.filterMap_cons_some (b := arr[x]) (by simp [hx])]
        cases i with
        | zero => simp [hx]
        | succ i => simpa using ih (fun j hj => hl j (.tail _ hj)) i
    have hj : pl[i]? = some pl[i] := List.getElem?_eq_getElem (by omega)
    have hin : pl[i] < arr.size := hall _ (List.getElem_mem _)
    have hx : arr[pl[i]]? = some arr[pl[i]] := Array.getElem?_eq_getElem hin
    refine nx_drawn hf h1 ⟨o, k, h4, h5⟩ h3 hj hx fun h' hit' hs' => ?_
    refine hQ _ h' s.toks ?_ ⟨hit', ⟨o, k, hs'.extBut T9 o hne2 h4, h5⟩, h3.at fun o e => hs'.extBut a o hne e⟩ fun b o hb' e => hs'.extBut b o (fun h => hb' (by simp [h])) e
    rw [List.getElem?_map, hfm pl hall, hj]
    show Option.map (·.2) arr[pl[i]]? = _
    rw [hx]; rfl
  done := fun s Q E ⟨h1, h4, h3⟩ hQ => by
    have hlen : pl.length = arr.size := by have := hpl.length_eq; simpa using this
    exact nx_drawn_end hh hf h1 h4 h3 (List.getElem?_eq_none (by omega)) fun h' hk => hQ h' s.toks fun b o hb' e => hk b o (fun h => hb' (by simp [h])) e
  self := fun _ _ _ _ ⟨h1, _⟩ hQ => it_self h1 hQ
end

end
section
theorem len_set_slot : typeLookup (.type "set") "__len__" = pure (some (.builtin "set.__len__")) := by rw [typeLookup_type, builtinLookup_eq_fast]; kernel_rfl
section
variable {prog : Program} {w : World} {A : Around} {E : Value → Shared → Prop} {s : Shared} {a : Addr} {es : List (Int × Value)}
theorem hint_set {r : Addr} {Q : Bool → Shared → Prop} (hT : s.TypeIs (.ref r) "set") (h : Q false s) : wpAny (model prog w) A (Builtin.List.listLengthHint (.ref r)) Q E s := by
  unfold Builtin.List.listLengthHint
  refine wpAny_bind (wpAny_specialOf hT len_set_slot ?_)
  generalize hid : ("set.__len__" : String) = id0
  wp_delta
  rw [show splitId id0 = some ("set", "__len__") from by subst hid; decide +kernel]
  subst hid
  refine wpAny_bind (wpAny_isInstance (T := "set") (b := true) hT (by rw [isSubtype_type]; kernel_rfl) ?_)
  refine wpAny_ite_split (fun hab => absurd hab (by decide)) (fun _ => ?_)
  refine wpAny_ite_split (fun _ => ?_) (fun hab => absurd (by decide +kernel) hab)
  refine wpAny_bind (wpAny_typeOf hT ?_)
  exact wpAny_pure h
def SetWalk (prog : Program) (w : World) (h₀ : Heap) (a : Addr) (es : List (Int × Value)) (I : Addr) (h' : Heap) : Prop :=
  ∃ (vs : List Value) (fp : List Addr) (St : Nat → Heap → Prop), vs.Perm (es.map (·.2)) ∧ (∀ A : Around, A.handled = none → Walks prog w A I fp [I] es.length (fun i v => vs[i]? = some v) St) ∧ St 0 h' ∧ (∀ b ∈ fp, b = a ∨ h₀.objs.size ≤ b) ∧ (∀ b o, h₀.get? b = some o → h'.get? b = some o) ∧ h₀.objs.size ≤ I
theorem set_iter {Q : Value → Shared → Prop} (hz : es.length ≤ 1000) (hS : SetIs w s.heap a es) (h : ∀ I h' dr, SetWalk prog w s.heap a es I h' → Q (.ref I) { s with heap := h', drawn := dr }) : wpAny (model prog w) A (pyIter (.ref a)) Q E s := by
  obtain ⟨o, arr, ep, t, ho, hex, hd, hp, hf, hled, hris⟩ := id hS
  have hlt : a < s.heap.objs.size := Heap.lt_size ho
  have hlen : es.length = arr.size := by rw [← hp.length_eq, Array.length_toList]
  refine wpAny_pyIter_slot ⟨o, ho, hex.1⟩ slot_setit (wpAny_call_entry slot_setit ⟨o, ho, hex.1⟩ entry_setit ?_ (args_setit _))
  unfold Builtin.«frozenset.__iter__»
  refine wpAny_bind (m := Builtin.Frozenset.slot0 _ _) (wpAny_pure ?_)
  refine wpAny_bind (m := Builtin.Frozenset.sizeOf _) ?_
  unfold Builtin.Frozenset.sizeOf
  refine wpAny_bind (wpAny_setEntries_of ho hd hf (wpAny_pure ?_))
  refine wpAny_bind ?_
  unfold setDrawn
  refine wpAny_bind (wpAny_setState_of ho hd hf ?_)
  refine wpAny_bind (m := setsByText) ?_
  unfold setsByText
  refine wpAny_bind (wpAny_askSetting (wpAny_pure ?_))
  dsimp only
  refine wpAny_pure ?_
  have fin : ∀ (first : Value) (h1 : Heap) (dr : Drawn) (fp : List Addr) (vs : List Value) (St : Nat → Heap → Prop), (∀ b o, s.heap.get? b = some o → h1.get? b = some o) → vs.Perm (es.map (·.2)) →
      (∀ A : Around, A.handled = none → Walks prog w A h1.objs.size fp [h1.objs.size] es.length (fun i v => vs[i]? = some v) St) → (∀ b ∈ fp, b = a ∨ s.heap.objs.size ≤ b) → s.heap.objs.size ≤ h1.objs.size →
      (∀ h2, IsIt h2 h1.objs.size first 0 a arr.size ep → (∀ b o, h1.get? b = some o → h2.get? b = some o) → St 0 h2) →
      wpAny (model prog w) A.in1 (setEpoch a >>= fun e => newFields "set_iterator" [first, rawInt 0, .ref a, rawInt (arr.size : Int), rawInt (e : Int)] >>= fun v => ret v)
        (fun fin s' => ∃ v, fin = Fin.done (Flow.ret v) ∧ ∃ T' r, s'.TypeIs v T' ∧ typeLookup (Value.type T') (Str.ofString "__next__") = pure (some r) ∧ Q v s') E { s with heap := h1, drawn := dr } := by
    intro first h1 dr fp vs St hk hv hW hfp hsz hSt
    obtain ⟨o1, ho1⟩ : ∃ o1, h1.get? a = some o1 ∧ o1 = o := ⟨o, hk _ _ ho, rfl⟩
    obtain ⟨ho1, rfl⟩ := ho1
    refine wpAny_bind (wpAny_setEpoch_of ho1 hd hf ?_)
    refine wpAny_bind (wpAny_newObj_type ?_)
    have hI : IsIt (h1.push { cls := .type "set_iterator", data := .fields [first, rawInt 0, .ref a, rawInt (arr.size : Int), rawInt (ep : Int)].toArray }) h1.objs.size first 0 a arr.size ep := ⟨_, Heap.get?_push_size _ rfl, rfl, rfl⟩
    refine wpAny_pure ⟨_, rfl, "set_iterator", _, ⟨_, Heap.get?_push_size _ rfl, rfl⟩, slot_setnx.lookup, ?_⟩
    exact h _ _ _ ⟨vs, fp, St, hv, hW, hSt _ hI (fun b o e => Heap.get?_push_of_some _ e), hfp, fun b o e => Heap.get?_push_of_some _ (hk _ _ e), hsz⟩
  show wpAny _ _ (if (!(w.params.followText "set-order") && (!t.plain && decide (arr.size > 1))) = true then _ else _) _ _ _
  have hne : a ≠ s.heap.objs.size := Nat.ne_of_lt hlt
  have self : s = { s with heap := s.heap, drawn := s.drawn } := rfl
  have slot : w.params.followText "set-order" = false → (!t.plain && decide (arr.size > 1)) = false → Ris t.place := fun hb hdr => by
    cases htp : t.plain with
    | true => exact hris htp
    | false =>
      rw [htp] at hdr
      have : ¬ arr.size > 1 := by simpa using hdr
      have hps : t.place.size = arr.size := by
        simp only [SetTable.fits, Bool.and_eq_true, beq_iff_eq] at hf
        exact hf.1
      intro x y hxy hy
      omega
  cases hb : w.params.followText "set-order" with
  | true =>
    rw [if_neg (by simp)]
    refine wpAny_bind (wpAny_pure ?_)
    refine fin (rawInt 0) s.heap s.drawn [s.heap.objs.size, a] ((pickOrder (w.params.setOrder a ep) arr).toList.map (·.2)) _ (fun _ _ e => e) (((pick_perm _ _).trans hp).map _) (fun A hh => by rw [hlen]; exact walk_text (I := s.heap.objs.size) hh hb hf hne) ?_ (Nat.le_refl _) ?_
    · intro b hb'
      rcases List.mem_cons.mp hb' with rfl | hb'
      · exact .inr (Nat.le_refl _)
      · exact .inl (List.mem_singleton.mp hb')
    · exact fun h2 hI hk => ⟨hI, ⟨o, hk _ _ ho, hd⟩⟩
  | false =>
    cases hdr : (!t.plain && decide (arr.size > 1)) with
    | false =>
      rw [if_neg (by simp)]
      refine wpAny_bind (wpAny_pure ?_)
      have hr := slot hb hdr
      refine fin (rawInt 0) s.heap s.drawn [s.heap.objs.size, a] (arr.toList.map (·.2)) _ (fun _ _ e => e) (hp.map _) (fun A hh => by rw [hlen]; exact walk_slot (I := s.heap.objs.size) (ep := ep) hh hb (by rw [hled, hb]; rfl) hr hf hdr hne) ?_ (Nat.le_refl _) ?_
      · intro b hb'
        rcases List.mem_cons.mp hb' with rfl | hb'
        · exact .inr (Nat.le_refl _)
        · exact .inl (List.mem_singleton.mp hb')
      · exact fun h2 hI hk => ⟨⟨0, hI, below_zero _ hr⟩, ⟨o, hk _ _ ho, hd⟩⟩
    | true =>
      rw [if_pos (by simp)]
      refine wpAny_bind (wpAny_drawOrder arr.size (List.range arr.size) _ _ (by simp) fun pl dr hpl => ?_)
      have hplen : pl.length = arr.size := by have := hpl.length_eq; simpa using this
      refine wpAny_bind (wpAny_newTuple ?_ (by rw [List.length_map, sizeLine_eq]; omega))
      have hsz : (s.heap.push { cls := .type "tuple", data := .seq (pl.map fun j : Nat => rawInt (j : Int)).toArray }).objs.size = s.heap.objs.size + 1 := by rw [Heap.size_push]
      have hpm : ((pl.filterMap fun j => arr[j]?).map (·.2)).Perm (es.map (·.2)) := by
        refine List.Perm.map _ ?_
        have h1 := hpl.filterMap fun j => arr[j]?
        rw [filterMap_getElem?_range] at h1
        exact h1.trans hp
      refine fin (.ref s.heap.objs.size) (s.heap.push { cls := .type "tuple", data := .seq (pl.map fun j : Nat => rawInt (j : Int)).toArray }) dr [(s.heap.push { cls := .type "tuple", data := .seq (pl.map fun j : Nat => rawInt (j : Int)).toArray }).objs.size, a, s.heap.objs.size] _ _ (fun b o e => Heap.get?_push_of_some _ e) hpm
        (fun A hh => by rw [hlen]; exact walk_drawn (T9 := s.heap.objs.size) (ep := ep) (t := t) hh hf hpl (by rw [hsz]; exact Nat.ne_of_lt (Nat.lt_succ_of_lt hlt)) (by rw [hsz]; exact Nat.ne_of_lt (Nat.lt_succ_self _))) ?_ (by rw [hsz]; exact Nat.le_succ _) ?_
      · intro b hb'
        rcases List.mem_cons.mp hb' with rfl | hb'
        · exact .inr (by rw [hsz]; exact Nat.le_succ _)
        · rcases List.mem_cons.mp hb' with rfl | hb'
          · exact .inl rfl
          · exact .inr (by rw [List.mem_singleton.mp hb']; exact Nat.le_refl _)
      · exact fun h2 hI hk => ⟨hI, ⟨_, _, hk _ _ (Heap.get?_push_size _ rfl), rfl⟩, ⟨o, hk _ _ (Heap.get?_push_of_some _ ho), hd⟩⟩
end

end
section
section
variable {prog : Program} {w : World} {A : Around} {E : Value → Shared → Prop} {s : Shared} {a : Addr} {es : List (Int × Value)}
theorem set_extend {R : Result → Shared → Prop} (hh : A.handled = none) (hz : es.length ≤ 1000) (hS : SetIs w s.heap a es) (S : Addr) (hSa : S ≠ a) (res : Value) (c₀ : Nat) (hL : s.heap.get? S = some { cls := .type "list", data := .seq #[] c₀ })
    (hR : ∀ h' tk dr vs c', vs.Perm (es.map (·.2)) → (∀ b o, b ≠ S → s.heap.get? b = some o → h'.get? b = some o) → h'.get? S = some { cls := .type "list", dict := none, data := .seq (vs : List Value).toArray c', slots := #[] } → R (.ok (.ret res)) { s with heap := h', drawn := dr, toks := tk }) :
    wpAny (model prog w) A.in1 (Builtin.List.listExtendWith (.ref S) (.ref a) res)
      (fun fin s' => match fin with | .done f => R (.ok f) s' | .again c' => c'.quiet = true ∧ codeAny (model prog w) A c' R s') (fun e s' => R (.error e) s') s := by
  have hSlt : S < s.heap.objs.size := Heap.lt_size hL
  unfold Builtin.List.listExtendWith
  refine wpAny_bind (wpAny_typeOf (T := "set") hS.typeIs ?_)
  have h1 : Builtin.List.listSameRef (.ref S) (.ref a) = false := by simp [Builtin.List.listSameRef, hSa]
  have h2 : (Value.type "set" == Value.type "list") = false := by decide
  have h3 : (Value.type "set" == Value.type "tuple") = false := by decide
  simp only [h1, h2, h3, Bool.or_false, Bool.false_eq_true, if_false]
  refine wpAny_bind (set_iter hz hS fun I h₁ dr hW => ?_)
  obtain ⟨vs, fp, St, hv, W, st, hfp, hk, hI⟩ := hW
  have hSI : S ≠ I := fun e => by rw [e] at hSlt; exact absurd hSlt (Nat.not_lt.mpr hI)
  have hSf : S ∉ fp := fun hm => by
    rcases hfp S hm with e | e
    · exact hSa e
    · exact absurd hSlt (Nat.not_lt.mpr e)
  have key : ∀ (h : Heap) (c₁ tk : Nat), St 0 h → (∀ b o, b ≠ S → s.heap.get? b = some o → h.get? b = some o) → h.get? S = some { cls := .type "list", data := .seq #[] c₁ } →
      codeAny (model prog w) A (.builtin "list.extend.loop" ⟨[.ref S, .ref I, res], []⟩) R { s with heap := h, drawn := dr, toks := tk } := by
    intro h c₁ tk hst hk' hS₁
    refine codeAny_extend_loopS (W A.in1 (by simpa using hh)).toS (by rw [sizeLine_eq]; omega) S hSf res es.length 0 _ #[] c₁ rfl (Nat.zero_le _) hst hS₁ (ItemsOf.nil _) fun s' acc' c' hm hS' hacc => ?_
    rw [Moved.eq_with hm]
    have hvl : vs.length = es.length := by rw [hv.length_eq, List.length_map]
    have hav : acc' = vs.toArray := by
      refine Array.ext (by rw [hacc.1, List.size_toArray, hvl]) fun j h1 h2 => ?_
      have : vs[j]? = some acc'[j] := hacc.2 j acc'[j] (Array.getElem?_eq_getElem h1)
      have h3 : j < vs.length := by rw [hvl, ← hacc.1]; exact h1
      rw [List.getElem?_eq_getElem h3] at this
      injection this with this
      rw [← this]; simp
    subst hav
    refine hR s'.heap s'.toks dr vs c' hv (fun b o hb e => hm.heap b o (fun hmem => ?_) (hk' b o hb e)) hS'
    rcases List.mem_cons.mp hmem with e' | hmem
    · exact hb e'
    · rw [List.mem_singleton.mp hmem] at e
      exact absurd (Heap.lt_size e) (Nat.not_lt.mpr hI)
  have hS₁ := hk _ _ hL
  refine wpAny_bind (wpAny_holding (hint_set (s := { s with heap := h₁, drawn := dr }) (hS.at fun o e => hk _ _ e).typeIs ?_))
  refine wpAny_ite_split (fun _ => ?_) (fun _ => wpAny_pure ⟨plainId_quiet PySem.F.plain_extend_loop _, key _ c₀ _ st (fun b o _ e => hk _ _ e) hS₁⟩)
  refine wpAny_bind (wpAny_rule ?_)
  refine wpAny_bind ?_
  show wpAny _ _ (updateSeq S (·.push .none) >>= fun _ => updateSeq S (·.pop)) _ _ _
  refine wpAny_bind (wpAny_updateSeq hS₁ rfl ?_)
  have hS₂ := Heap.get?_update_self (Obj.mapSeq (·.push Value.none)) hS₁ rfl
  refine wpAny_updateSeq (hz := by seq_fits) hS₂ rfl ?_
  have hS₃ := Heap.get?_update_self (Obj.mapSeq (·.pop)) hS₂ rfl
  refine wpAny_pure ⟨plainId_quiet PySem.F.plain_extend_loop _, key _ _ _ ?_ (fun b o hb e => ?_) hS₃⟩
  · refine (W A hh).frame 0 _ _ st fun b hb o e => ?_
    have hbS : b ≠ S := fun h => hSf (h ▸ hb)
    exact (Heap.get?_update_other _ _ (Ne.symm hbS)).trans ((Heap.get?_update_other _ _ (Ne.symm hbS)).trans e)
  · exact (Heap.get?_update_other _ _ (Ne.symm hb)).trans ((Heap.get?_update_other _ _ (Ne.symm hb)).trans (hk _ _ e))
theorem set_collect {R : List Value → Shared → Prop} (hh : A.handled = none) (hz : es.length ≤ 1000) (hS : SetIs w s.heap a es)
    (h : ∀ (h' : Heap) (tk : Nat) (dr : Drawn) (vs : List Value), (∀ b o, s.heap.get? b = some o → h'.get? b = some o) → vs.Perm (es.map (·.2)) → R vs { s with heap := h', drawn := dr, toks := tk }) :
    wpAny (model prog w) A (collect (.ref a)) R E s := by
  have hlt := hS.lt
  unfold collect
  refine wpAny_bind (wpAny_runValue (codeAny_builtin entry_proto_collect' ?_))
  rw [Around.under_plainId PySem.F.plain_proto_collect _]
  show wpAny _ A.in1 (newList [] >>= fun l => again (.builtin "list.__iadd__" ⟨[l, .ref a], []⟩)) _ _ s
  refine wpAny_bind (wpAny_newObj_type ?_)
  refine wpAny_pure ⟨plainId_quiet PySem.F.plain_list_iadd _, codeAny_builtin entry_list_iadd' ?_⟩
  rw [Around.under_plainId PySem.F.plain_list_iadd _]
  have hS₁ : (s.heap.push { cls := .type "list", data := .seq ([] : List Value).toArray }).get? s.heap.objs.size = some { cls := .type "list", data := .seq #[] } := Heap.get?_push_size _ rfl
  show wpAny _ A.in1 (Builtin.List.listExtendWith (.ref s.heap.objs.size) (.ref a) (.ref s.heap.objs.size)) _ _ _
  have key := set_extend (prog := prog) (A := A) (s := { s with heap := s.heap.push { cls := .type "list", data := .seq ([] : List Value).toArray } })
    (R := fun (q : Result) (s' : Shared) => ∃ (h' : Heap) (tk : Nat) (dr : Drawn) (vs : List Value) (c' : Nat), q = .ok (.ret (.ref s.heap.objs.size)) ∧ s' = { s with heap := h', drawn := dr, toks := tk } ∧
      (∀ b o, s.heap.get? b = some o → h'.get? b = some o) ∧ h'.get? s.heap.objs.size = some { cls := .type "list", dict := none, data := .seq vs.toArray c', slots := #[] } ∧ vs.Perm (es.map (·.2)))
    hh hz (hS.at fun o e => Heap.get?_push_of_some _ e) s.heap.objs.size (Nat.ne_of_gt hlt) (.ref s.heap.objs.size) 0 hS₁
    (fun h' tk dr vs c' hv hk hS' => ⟨h', tk, dr, vs, c', rfl, rfl, fun b o e => hk b o (Nat.ne_of_lt (Heap.lt_size e)) (Heap.get?_push_of_some _ e), hS', hv⟩)
  refine wpAny_mono key (fun fin s' x => ?_) fun e s' x => ?_
  · cases fin with
    | done f =>
      obtain ⟨h', tk, dr, vs, c', e, rfl, hk, hS', hv⟩ := x
      cases e
      show wpAny _ A (load s.heap.objs.size >>= _) _ _ _
      refine wpAny_bind (wpAny_load hS' ?_)
      exact wpAny_pure (h h' tk dr vs hk hv)
    | again c₁ =>
      refine ⟨x.1, codeAny_mono x.2 fun q s₂ y => ?_⟩
      obtain ⟨h', tk, dr, vs, c', rfl, rfl, hk, hS', hv⟩ := y
      show wpAny _ A (load s.heap.objs.size >>= _) _ _ _
      refine wpAny_bind (wpAny_load hS' ?_)
      exact wpAny_pure (h h' tk dr vs hk hv)
  · obtain ⟨_, _, _, _, _, e', _⟩ := x
    cases e'
theorem ints_perm : ∀ {us vs : List Value}, us.Perm vs → ∀ {ns : List Int}, IntsAre vs ns → ∃ ms : List Int, IntsAre us ms ∧ ms.Perm ns := by
  intro us vs p
  induction p with
  | nil => exact fun h => ⟨_, h, .rfl⟩
  | cons x _ ih =>
    intro ns h
    cases h with
    | cons n t h =>
      obtain ⟨ms, h1, h2⟩ := ih h
      exact ⟨n :: ms, .cons n t h1, h2.cons n⟩
  | swap x y l =>
    intro ns h
    cases h with
    | cons n t h =>
      cases h with
      | cons n' t' h => exact ⟨_, .cons n' t' (.cons n t h), .swap ..⟩
  | trans _ _ ih1 ih2 =>
    intro ns h
    obtain ⟨ms, h1, h2⟩ := ih2 h
    obtain ⟨ks, h3, h4⟩ := ih1 h1
    exact ⟨ks, h3, h4.trans h2⟩
theorem sorted_set {h₀ : Heap} {L : Addr} {m : Str → Option Value} {news : List (Addr × Obj)} {ns : List Int} {Q : Value → Shared → Prop} (hh : A.handled = none) (F : Fr h₀ L s.heap m) (N : News h₀ L s.heap news) (hS : SetIs w s.heap a es) (hI : IntsAre (es.map (·.2)) ns) (hup : ns.Pairwise (· < ·)) (hn : ns.length < 64)
    (h : ∀ (B : Nat) (h' : Heap) (tk : Nat) (dr : Drawn) (vs : List Value) (c : Nat), IntsAre vs ns → Fr h₀ L h' m → News h₀ L h' ((B, listOf vs.toArray c) :: news) → (∀ p ∈ news, p.1 < B) → Q (.ref B) { s with heap := h', drawn := dr, toks := tk }) :
    wpAny (model prog w) A (call (.builtin "sorted") [.ref a]) Q E s := by
  have hel : es.length = ns.length := by have := hI.length; simpa using this
  refine PySem.Calls.call_function_entry kind_sorted plain_sorted entry_sorted (args_sorted1 _) ?_
  unfold Builtin.«sorted»
  refine wpAny_bind (m := checkCount "sorted" 1 1 _) (wpAny_pure ?_)
  refine wpAny_bind (set_collect (A := A.in1) hh (by omega) hS fun h' tk dr vs hk hv => ?_)
  obtain ⟨ms, hm1, hm2⟩ := ints_perm hv hI
  have hvl : vs.length = ns.length := by rw [hm1.length, hm2.length_eq]
  refine wpAny_bind (wpAny_newList ?_ (by rw [sizeLine_eq]; omega))
  have F1 : Fr h₀ L h' m := F.keeps hk
  have N1 : News h₀ L h' news := fun p hp => ⟨hk _ _ (N p hp).1, (N p hp).2⟩
  have hoL : (h'.push { cls := .type "list", data := .seq vs.toArray }).get? h'.objs.size = some (seqObj "list" vs.toArray 0) := Heap.get?_push_size _ rfl
  refine wpAny_bind (wpAny_holding (wpAny_call_entry slot_list_sort ⟨_, hoL, rfl⟩ entry_list_sort (list_sort_tree hoL hm1 (by omega) fun out ns' a1 a2 a3 => ⟨_, rfl, ?_⟩) (args_list_sort _)))
  have hns : ns' = ns := PySem.W.ksm_same (a2.trans hm2) a3 (hup.imp fun h => Int.le_of_lt h)
  subst hns
  refine wpAny_pure ⟨_, rfl, ?_⟩
  obtain ⟨e, he⟩ := sortedHeap_at (out := out) hoL
  have hold : ∀ b o, h'.get? b = some o → (sortedHeap (h'.push { cls := .type "list", data := .seq vs.toArray }) h'.objs.size vs out).get? b = some o := fun b o hb => by
    have hlt := Heap.lt_size hb
    rw [sortedHeap_old (Nat.ne_of_lt hlt) (by rw [Heap.size_push]; exact Nat.lt_succ_of_lt hlt)]
    exact Heap.get?_push_of_some _ hb
  exact h h'.objs.size _ tk dr out.toList e a1 (F1.kept hold) (N1.kept_cons F1 hold (Nat.le_refl _) he) (fun p hp => Heap.lt_size (N1 p hp).1)
theorem set_of {h₀ : Heap} {L l : Addr} {m : Str → Option Value} {news : List (Addr × Obj)} {vs : List Value} {k : Nat} {ns : List Int} {Q : Value → Shared → Prop} (hh : A.handled = none) (F : Fr h₀ L s.heap m) (N : News h₀ L s.heap news) (hm : (l, listOf vs.toArray k) ∈ news) (hI : IntsAre vs ns) (hup : ns.Pairwise (· < ·)) (hn : ns.length < 64)
    (h : ∀ (D : Addr) (h' : Heap) (tk : Nat) (es : List (Int × Value)), SetIs w h' D es → IntsAre (es.map (·.2)) ns → Fr h₀ L h' m → News h₀ L h' news → Q (.ref D) { s with heap := h', toks := tk }) :
    wpAny (model prog w) A (call (.type "set") [.ref l]) Q E s := by
  refine call_set hh ⟨_, (N _ hm).1, rfl, k, rfl⟩ hI (hup.imp fun h => Int.ne_of_lt h) (by unfold scanBound; omega) fun h' tk es hS hE hk => ?_
  have hk' : ∀ b o, s.heap.get? b = some o → h'.get? b = some o := fun b o e => hk b o (Heap.lt_size e) e
  exact h _ h' tk es hS hE (F.kept hk') fun p hp => ⟨hk' _ _ (N p hp).1, (N p hp).2⟩
end

end
section
local macro_rules | `(tactic| walk_at "My enter") => `(tactic| ((case kA => exact rfl); (case kF => exact rfl); (case kK => assumption); (case k1 => k_asm); (case k2 => k_asm); (case k3 => k_asm); (case k4 => k_asm); (case k5 => k_asm); (case k6 => k_is); (case k7 => k_is); (case k8 => ktr_room); (case k9 => exact BindsTo.of_eq rfl); (case c5 => decide); (case kB => exact locs rfl); (case c2 => exact rfl); (case c3 => exact rfl); (case c4 => exact rfl); k_whole; intro g' L' h' FG' F' N' B' X' T'; (try dsimp only); (try k_fold)))
local macro_rules | `(tactic| walk_at "My A") => `(tactic| first | with_reducible assumption | exact AIs.set_e (by walk_at "My A") | exact AIs.set_b (by walk_at "My A") | exact AIs.set_cp (by walk_at "My A") | exact AIs.set_b0 (by walk_at "My A"))
local macro_rules | `(tactic| walk_at "My S") => `(tactic| first | with_reducible assumption | exact SIs.set_hb (by walk_at "My S") | exact SIs.set_bb (by walk_at "My S"))
local macro_rules | `(tactic| k_get) => `(tactic| first
  | exact SIs.stack (by walk_at "My S") | exact SIs.heap (by walk_at "My S") | exact SIs.trail (by walk_at "My S") | exact SIs.hb (by walk_at "My S") | exact SIs.bb (by walk_at "My S") | exact SIs.max_heap (by walk_at "My S")
  | exact SIs.stack_put (by walk_at "My S") | exact SIs.mark (by walk_at "My S") | exact SIs.push (by walk_at "My S") | exact SIs.new_var (by walk_at "My S") | exact SIs.bind (by walk_at "My S")
  | exact AIs.code (by walk_at "My A") | exact AIs.store (by walk_at "My A") | exact AIs.cp (by walk_at "My A") | exact AIs.e (by walk_at "My A") | exact AIs.b (by walk_at "My A") | exact AIs.b0 (by walk_at "My A")
  | exact AIs.top (by walk_at "My A") | exact AIs.set_choice (by walk_at "My A") | exact AIs.push_environment (by walk_at "My A") | exact AIs.push_choice (by walk_at "My A") | exact AIs.choice_part (by walk_at "My A") | exact AIs.cut_back (by walk_at "My A") | exact AIs.choices (by walk_at "My A"))
local macro_rules | `(tactic| walk_at "My mem") => `(tactic| first | exact List.Mem.head _ | (refine' List.Mem.tail _ ?_; walk_at "My mem") | assumption)
local macro_rules | `(tactic| k_all) => `(tactic| with_reducible assumption)
local macro_rules | `(tactic| walk_at "call builtin:len") => `(tactic| (k_here; (with_reducible show wpAny _ _ (call (Value.builtin "len") [Value.ref _]) _ _ _); k_dflt (refine' m_len ?k1 ?k2 ?k3 ?_; (case k1 => k_asm); (case k2 => walk_at "My mem"); (case k3 => omega); k_whole)))
local macro_rules | `(tactic| walk_at "setItem ref int") => `(tactic| (k_here; k_dflt (refine' m_set ?k1 ?k2 ?k3 ?k4 ?k5 ?k6 ?_; (case k1 => k_asm); (case k2 => k_asm); (case k6 => k_upd); (case k3 => omega); (case k4 => omega); (case k5 => omega); k_whole; intro h' F' N'; (try k_sweep))))
local macro_rules | `(tactic| walk_at "call builtin:list.append") => `(tactic| (k_here; k_dflt (refine' m_append ?k1 ?k2 ?k3 ?k4 ?_; (case k1 => k_asm); (case k2 => k_asm); (case k4 => k_upd); (case k3 => omega); k_whole; intro h' F' N'; (try k_sweep))))
local macro_rules | `(tactic| walk_at "WhlIf") => `(tactic| (first | (refine WhlIf.yes (decide_eq_true (by omega)) ?_) | (refine WhlIf.no (decide_eq_false (by omega)) ?_)))
local macro_rules | `(tactic| walk_at "My fit") => `(tactic| first | omega | ((try simp only [List.length_cons, List.length_nil, List.length_append, List.length_map]); omega))
local macro_rules | `(tactic| walk_at "My at") => `(tactic| first | with_reducible assumption | rfl | (refine' (show 0 ≤ (_ : Int) → (_ : Option Value) = some _ from by with_reducible assumption) ?_; omega))
local macro_rules | `(tactic| walk_at "subscriptTail") => `(tactic| (k_here; (with_reducible show wpAny _ _ (subscriptTail _ _ (Value.ref _) (Value.int _ _)) _ _ _); k_dflt (first
  | (refine' m_itemV ?k1 ?k2 ?k3 ?k4 ?k5 ?_; (case k1 => k_asm); (case k2 => walk_at "My mem"); (case k3 => omega); (case k4 => walk_at "My fit"); (case k5 => walk_at "My at"); k_whole)
  | (refine' m_tupV ?k1 ?k2 ?k3 ?k4 ?k5 ?_; (case k1 => k_asm); (case k2 => walk_at "My mem"); (case k3 => omega); (case k4 => walk_at "My fit"); (case k5 => walk_at "My at"); k_whole))))
local macro_rules | `(tactic| walk_at "setAttr ref") => `(tactic| (k_here; k_dflt (refine' m_setattr ?k1 ?k2 ?k3 ?k4 ?k5 ?k6 ?k7 ?k8 ?k9 ?k10 ?k11 ?k12 ?_; (case k1 => k_asm); (case k2 => k_asm); (case k3 => k_asm); (case k4 => k_inst); (case k5 => exact rfl); (case k6 => k_is); (case k7 => k_is); (case k8 => k_is); (case k9 => k_is); (case k10 => k_get); (case k11 => (intro t'; k_upd)); (case k12 => first | exact AIs.len (by walk_at "My A") | exact SIs.len (by walk_at "My S")); k_whole; intro t' tk' h' F' N'; (try dsimp only at N'); (try dsimp only); (try k_sweep))))
local macro_rules | `(tactic| walk_at "getAttr ref") => `(tactic| (k_here; k_dflt (refine' m_getattr ?k1 ?k2 ?k3 ?k4 ?k5 ?k6 ?k7 ?k8 ?k9 ?_; (case k1 => k_asm); (case k2 => k_asm); (case k3 => k_inst); (case k4 => k_is); (case k5 => k_is); (case k6 => k_is); (case k7 => k_is); (case k8 => k_get); (case k9 => k_handed); k_whole; intro tk'; (try dsimp only))))
local macro_rules | `(tactic| walk_at "My call") => `(tactic| ((case B => k_asm); (case F => k_asm); (case X => k_asm); (case N => first | k_asm | exact rot1 (by k_asm) | exact rot2 (by k_asm) | exact rot3 (by k_asm)); (case T => k_asm); (case hk => first | exact rfl | assumption); (case ord => omega); (case off => exact ⟨by k_all, by k_all, by k_all, by k_all, by k_all⟩); (case hA => walk_at "My A"); (case hS => walk_at "My S"); (case hdp => ktr_room); (case hun => ktr_units)))
local macro_rules | `(tactic| walk_at "call ref") => `(tactic| (k_here; (try dsimp only); (with_reducible show wpAny _ _ (call (Value.ref 154) _) _ _ _); k_dflt (refine' c_symbols (B := ?B) (F := ?F) (X := ?X) (N := ?N) (T := ?T) (hk := ?hk) (hdp := ?hdp) (hun := ?hun) ?_; (case B => k_asm); (case F => k_asm); (case X => k_asm); (case N => k_asm); (case T => k_asm); (case hk => first | exact rfl | with_reducible assumption); (case hdp => ktr_room); (case hun => ktr_units); intro h' tk' q' F' N'; (try dsimp only))))
local macro_rules | `(tactic| walk_at "call ref") => `(tactic| (k_here; (try dsimp only); (with_reducible show wpAny _ _ (call (Value.ref 541) _) _ _ _); k_dflt (refine' c_areas (B := ?B) (F := ?F) (X := ?X) (N := ?N) (T := ?T) (hk := ?hk) (hdp := ?hdp) (hun := ?hun) ?_; (case B => k_asm); (case F => k_asm); (case X => k_asm); (case N => k_asm); (case T => k_asm); (case hk => first | exact rfl | with_reducible assumption); (case hdp => ktr_room); (case hun => ktr_units); intro h' tk' A AD S SD HL KL TR ea na es ns kh kk kt u1 u2 u3 u4 v1 v2 v3 F' N' hA' hS' l1 ord'; (try k_lt l1); (try dsimp only))))
local macro_rules | `(tactic| walk_at "exec For") => `(tactic| refine halt ?_)
local macro_rules | `(tactic| walk_at "exec For Name Call cons nil") => `(tactic| refine halt ?_)
local macro_rules | `(tactic| walk_at "call ref") => `(tactic| (k_here; (try dsimp only); (with_reducible show wpAny _ _ (call (Value.ref 552) _) _ _ _); k_dflt (refine' c_pickU (B := ?B) (F := ?F) (X := ?X) (N := ?N) (T := ?T) (hk := ?hk) (hdp := ?hdp) (hun := ?hun) (U := ?U) (hUL := ?UL) (o1 := ?z0) (hx := ?z1) (hz := ?z2) (hz1 := ?z3) (hf1 := ?z4) (hf2 := ?z5) (hI := ?z6) (hns := ?z7) ?_; (case B => k_asm); (case F => k_asm); (case X => k_asm); (case N => k_asm); (case T => k_asm); (case hk => first | exact rfl | with_reducible assumption); (case hdp => ktr_room); (case hun => ktr_units); (case U => k_updF); (case UL => walk_at "My mem"); (case z0 => omega); (case z1 => omega); (case z2 => omega); (case z3 => omega); (case z4 => omega); (case z5 => omega); (case z6 => with_reducible assumption); (case z7 => omega); intro h' tk' k' x' z' t1' t2' t3' r' F' N' hx' hz' hz1' hr0' hr1'; (try dsimp only))))
local macro_rules | `(tactic| walk_at "pyIter ref") => `(tactic| refine halt ?_)
local macro_rules | `(tactic| walk_at "call type:range") => `(tactic| ((rename Fr _ _ _ _ => lF9); (rename News _ _ _ _ => lN9); (with_unfolding_all refine range1_rows lF9 lN9 ?_); clear lF9 lN9; intro h' tk' t' u' v' hR' F' N' hk'))
theorem fr_any7 {h₀ h : Heap} {L : Addr} {x1 x2 x3 x4 x5 x6 x7 : Str} {a1 a2 a3 a4 a5 a6 a7 : Option Value} {B : Str → Option Value} (F : Fr h₀ L h (fun y => if y = x1 then a1 else if y = x2 then a2 else if y = x3 then a3 else if y = x4 then a4 else if y = x5 then a5 else if y = x6 then a6 else if y = x7 then a7 else B y)) :
    ∃ B' : Str → Option Value, Fr h₀ L h (fun y => if y = x1 then a1 else if y = x2 then a2 else if y = x3 then a3 else if y = x4 then a4 else if y = x5 then a5 else if y = x6 then a6 else if y = x7 then a7 else B' y) := ⟨B, F⟩

local macro_rules | `(tactic| k_ne) => `(tactic| (refine neN ?_; (try dsimp only); first | with_reducible assumption | with_reducible exact Ne.symm (by assumption)))
local macro_rules | `(tactic| walk_at "My xs") => `(tactic| (refine' List.forall_mem_cons.mpr ⟨?a, ?b⟩; (case a => k_ne); (case b => first | with_reducible assumption | walk_at "My xs")))
local macro_rules | `(tactic| k_updF) => `(tactic| (refine' updF_UR ?a ?b; (case a => with_reducible assumption); (case b => first | with_reducible assumption | walk_at "My xs")))
local macro_rules | `(tactic| k_upd) => `(tactic| (refine' upd_UR ?a ?b; (case a => with_reducible assumption); (case b => first | with_reducible assumption | walk_at "My xs")))
local macro_rules | `(tactic| k_updF) => `(tactic| (refine' updF_LL ?a ?b; (case a => with_reducible assumption); (case b => first | with_reducible assumption | walk_at "My xs")))
local macro_rules | `(tactic| k_upd) => `(tactic| (refine' upd_LL ?a ?b; (case a => with_reducible assumption); (case b => first | with_reducible assumption | walk_at "My xs")))
local macro_rules | `(tactic| k_updF) => `(tactic| (refine' updF_PL ?a ?b; (case a => with_reducible assumption); (case b => first | with_reducible assumption | walk_at "My xs")))
local macro_rules | `(tactic| k_upd) => `(tactic| (refine' upd_PL ?a ?b; (case a => with_reducible assumption); (case b => first | with_reducible assumption | walk_at "My xs")))
local macro_rules | `(tactic| k_updF) => `(tactic| (refine' updF_KP ?a ?b; (case a => with_reducible assumption); (case b => first | with_reducible assumption | walk_at "My xs")))
local macro_rules | `(tactic| k_upd) => `(tactic| (refine' upd_KP ?a ?b; (case a => with_reducible assumption); (case b => first | with_reducible assumption | walk_at "My xs")))
local macro_rules | `(tactic| k_updF) => `(tactic| (refine' updF_AD ?a ?b; (case a => with_reducible assumption); (case b => first | with_reducible assumption | walk_at "My xs")))
local macro_rules | `(tactic| k_upd) => `(tactic| (refine' upd_AD ?a ?b; (case a => with_reducible assumption); (case b => first | with_reducible assumption | walk_at "My xs")))
local macro_rules | `(tactic| walk_at "My off") => `(tactic| first
  | (refine' off_tail ?o ?a ?b ?c ?d ?e; (case o => with_reducible assumption); all_goals with_reducible assumption)
  | (refine' off_cons ?h ?a ?b ?c ?d ?e; (case h => walk_at "My off"); all_goals k_ne))
local macro_rules | `(tactic| walk_at "My call") => `(tactic| ((case B => k_asm); (case F => k_asm); (case X => k_asm); (case N => first | k_asm | exact rot1 (by k_asm) | exact rot2 (by k_asm) | exact rot3 (by k_asm)); (case T => k_asm); (case hk => first | exact rfl | assumption); (case ord => exact Ords.core (by with_reducible assumption)); (case off => walk_at "My off"); (case hA => walk_at "My A"); (case hS => walk_at "My S"); (case hdp => ktr_room); (case hun => ktr_units)))
local macro_rules | `(tactic| walk_at "call ref") => `(tactic| (k_here; (try dsimp only); (with_reducible show wpAny _ _ (call (Value.ref 209) _) _ _ _); k_dflt (refine' c_new_var (B := ?B) (F := ?F) (X := ?X) (N := ?N) (T := ?T) (hk := ?hk) (hdp := ?hdp) (hun := ?hun) (ord := ?ord) (off := ?off) (hA := ?hA) (hS := ?hS) (hlen := ?z1) ?_; walk_at "My call"; (case z1 => omega); intro h' tk' kh' q' F' N'; (try dsimp only))))
local macro_rules | `(tactic| walk_at "call ref") => `(tactic| (k_here; (try dsimp only); (with_reducible show wpAny _ _ (call (Value.ref 244) _) _ _ _); k_dflt (refine' c_bind (B := ?B) (F := ?F) (X := ?X) (N := ?N) (T := ?T) (hk := ?hk) (hdp := ?hdp) (hun := ?hun) (ord := ?ord) (off := ?off) (hA := ?hA) (hS := ?hS) (hq := ?z0) (h0 := ?z1) (h1 := ?z2) (hlen := ?z3) (hts := ?z4) ?_; walk_at "My call"; (case z0 => walk_at "My mem"); (case z1 => omega); (case z2 => omega); (case z3 => omega); (case z4 => omega); intro h' tk' ts' kt' t' F' N' hts'; (try dsimp only))))
local macro_rules | `(tactic| walk_at "call ref") => `(tactic| (k_here; (try dsimp only); (with_reducible show wpAny _ _ (call (Value.ref 461) _) _ _ _); k_dflt (refine' c_env (B := ?B) (F := ?F) (X := ?X) (N := ?N) (T := ?T) (hk := ?hk) (hdp := ?hdp) (hun := ?hun) (ord := ?ord) (off := ?off) (hA := ?hA) (hS := ?hS) (hpl := ?y0) (hcp := ?y1) (hcnt := ?y2) (hlen := ?y3) (he := ?y4) (hb1 := ?y5) (hc1 := ?y6) (hp0 := ?y7) (hp1 := ?y8) ?_; walk_at "My call"; (case y0 => exact rfl); (case y1 => first | with_reducible assumption | omega); (case y2 => with_reducible assumption); (case y3 => omega); (case y4 => omega); (case y5 => omega); (case y6 => first | with_reducible assumption | omega); (case y7 => ((rename (∀ cp' : Int, cp' = 1 ∨ cp' = 2 → _) => ht9); exact (ht9 _ (by omega)).1)); (case y8 => ((rename (∀ cp' : Int, cp' = 1 ∨ cp' = 2 → _) => ht9); exact (ht9 _ (by omega)).2.1)); intro h' tk' ea' kk' t2' F' N' hA'; (try dsimp only))))
local macro_rules | `(tactic| walk_at "call ref") => `(tactic| (k_here; (try dsimp only); (with_reducible show wpAny _ _ (call (Value.ref 489) _) _ _ _); k_dflt (refine' c_pch (B := ?B) (F := ?F) (X := ?X) (N := ?N) (T := ?T) (hk := ?hk) (hdp := ?hdp) (hun := ?hun) (ord := ?ord) (off := ?off) (hA := ?hA) (hS := ?hS) (hpl := ?y0) (hcp := ?y1) (hcnt := ?y2) (hlen := ?y3) (hh := ?y9) (ht := ?y10) (he := ?y4) (hb1 := ?y5) (hc1 := ?y6) (hp0 := ?y7) (hp1 := ?y8) (hG := ?y11) (hg2 := ?y12) ?_; walk_at "My call"; (case y0 => exact rfl); (case y1 => first | with_reducible assumption | omega); (case y2 => with_reducible assumption); (case y3 => omega); (case y4 => omega); (case y5 => omega); (case y6 => first | with_reducible assumption | omega); (case y7 => ((rename (∀ cp' : Int, cp' = 1 ∨ cp' = 2 → _) => ht9); exact (ht9 _ (by omega)).1)); (case y8 => ((rename (∀ cp' : Int, cp' = 1 ∨ cp' = 2 → _) => ht9); exact (ht9 _ (by omega)).2.1)); (case y9 => omega); (case y10 => omega); (case y11 => walk_at "My mem"); (case y12 => omega); intro h' tk' ea' es' kk' tt1' tt2' tt3' t1' t2' t3' F' N' hA' hS'; (replace N' := rotx2 N'); (try dsimp only))))
local macro_rules | `(tactic| walk_at "call builtin:list.pop") => `(tactic| (k_here; (try dsimp only); k_dflt (refine' m_pop0 ?k1 ?k2 ?k3 ?k4 ?k5 ?k6 ?_; (case k1 => k_asm); (case k2 => k_asm); (case k3 => k_updF); (case k4 => with_reducible assumption); (case k5 => omega); (case k6 => omega); intro h' r' rn' a' t' hl' hn' F' N'; (rename (∀ a : Int, a ∈ _ → 0 ≤ a ∧ a < _) => lr9); (have lr8 := lr9 a' (by rw [hn']; exact List.Mem.head _)); (try dsimp only))))
local macro_rules | `(tactic| walk_at "subscriptTail") => `(tactic| (k_here; (with_reducible show wpAny _ _ (subscriptTail _ _ (Value.ref _) (Value.int (-1) _)) _ _ _); k_dflt (refine' m_back ?k1 ?k2 ?k3 ?k4 ?_; (case k1 => k_asm); (case k2 => walk_at "My mem"); (case k3 => omega); (case k4 => (refine (show 0 < (_ : Nat) → ∃ t, (_ : Option Value) = some (Value.int _ t) from by with_reducible assumption) ?_; omega)); k_whole; intro t')))
local macro_rules | `(tactic| walk_at "setItem ref int") => `(tactic| (k_here; k_dflt (refine' kda_set (knd := PySem.intKind _ _) ?F ?N ?U ?hd (intKind_is _ _ _ _) ?hz ?_; (case F => k_asm); (case N => k_asm); (case U => k_updF); (case hd => with_reducible assumption); (case hz => (rw [sizeLine_eq]; omega)); intro h' o' F' N' hd'; (try dsimp only))))
local macro_rules | `(tactic| walk_at "exec Assign cons ListComp") => `(tactic| refine halt ?_)
local macro_rules | `(tactic| walk_at "eval ListComp") => `(tactic| refine halt ?_)
local macro_rules | `(tactic| walk_at "CompSrc") => `(tactic| refine halt ?_)
local macro_rules | `(tactic| walk_at "My lt") => `(tactic| ((rename (∀ p : Addr × Obj, p ∈ _ → p.1 < _) => l9); first
  | (have l8 := lt_canon (by with_reducible assumption) l9; obtain ⟨m1, m2, m3, m4, m5, m6, m7, m8, m9, l7⟩ := l8; clear l9)
  | (obtain ⟨l6, l5⟩ := List.forall_mem_cons.mp l9; clear l9; (try dsimp only at l6); walk_at "My lt")))
local macro_rules | `(tactic| walk_at "newTuple") => `(tactic| (k_here; k_dflt (refine' kup_newTuple ?F ?N ?_ ?z; (case F => k_asm); (case N => k_asm); (case z => kmk_size)); intro D' h' F' N' l1; (walk_at "My lt"); (try k_sweep)))
local macro_rules | `(tactic| walk_at "My names") => `(tactic| (intro z9 k1 k2 k3 k4; (have k5 := stn_ne (a := Str.ofString "way") k4 (by decide)); (have k6 := stn_ne (a := Str.ofString "given") k4 (by decide)); (have k7 := stn_ne (a := Str.ofString "other") k4 (by decide)); (have k8 := stn_ne (a := Str.ofString "entries") k4 (by decide)); (have k9 := stn_ne (a := Str.ofString "address") k4 (by decide)); (simp only [kstB, if_neg k1, if_neg k2, if_neg k3, if_neg k5, if_neg k6, if_neg k7, if_neg k8, if_neg k9, k4, Bool.false_eq_true, if_false])))
local macro_rules | `(tactic| walk_at "My way1") => `(tactic| ((rename News _ _ _ _ => N5); (rename Offs _ _ _ _ _ _ _ _ _ _ => of5); (rename OwnOff _ _ => ho5); (rename Inv _ _ _ _ _ _ _ _ => I5); k_dflt (refine' way1 I5 of5 ho5 ⟨?u1, ?u2, ?u3⟩ (by assumption) N5 rfl rfl ?hr; (case u1 => omega); (case u2 => omega); (case u3 => omega); (case hr => walk_at "My names"))))
local macro_rules | `(tactic| walk_at "My way2") => `(tactic| ((rename News _ _ _ _ => N5); (rename Offs _ _ _ _ _ _ _ _ _ _ => of5); (rename OwnOff _ _ => ho5); (rename Inv _ _ _ _ _ _ _ _ => I5); k_dflt (refine' way2 I5 of5 ho5 ⟨?u1, ?u2, ?u3⟩ (by assumption) N5 ?u4 ?u5 ?u6 rfl rfl ?u7 ?hr; (case u4 => with_reducible assumption); (case u5 => with_reducible assumption); (case u6 => with_reducible assumption); (case u7 => omega); (case u1 => omega); (case u2 => omega); (case u3 => omega); (case hr => walk_at "My names"))))
local macro_rules | `(tactic| walk_at "My way3") => `(tactic| ((rename News _ _ _ _ => N5); (rename Offs _ _ _ _ _ _ _ _ _ _ => of5); (rename OwnOff _ _ => ho5); (rename Inv _ _ _ _ _ _ _ _ => I5); k_dflt (refine' way3 I5 of5 ho5 ⟨?u1, ?u2, ?u3⟩ (by assumption) N5 ?u4 ?u5 rfl rfl rfl ?hr; (case u5 => with_reducible assumption); (case u4 => omega); (case u1 => omega); (case u2 => omega); (case u3 => omega); (case hr => walk_at "My names"))))
local macro_rules | `(tactic| walk_at "My way4") => `(tactic| ((rename News _ _ _ _ => N5); (rename Offs _ _ _ _ _ _ _ _ _ _ => of5); (rename OwnOff _ _ => ho5); (rename Inv _ _ _ _ _ _ _ _ => I5); k_dflt (refine' way4 I5 of5 ho5 ⟨?u1, ?u2, ?u3⟩ (by assumption) N5 ?u4 rfl rfl ?hr; (case u4 => walk_at "My A"); (case u1 => omega); (case u2 => omega); (case u3 => omega); (case hr => walk_at "My names"))))
local macro_rules | `(tactic| walk_at "call ref") => `(tactic| (k_here; (try dsimp only); (with_reducible show wpAny _ _ (call (Value.ref 552) _) _ _ _); k_dflt (refine' c_pickU (B := ?B) (F := ?F) (X := ?X) (N := ?N) (T := ?T) (hk := ?hk) (hdp := ?hdp) (hun := ?hun) (U := ?U) (hUL := ?UL) (o1 := ?z0) (hx := ?z1) (hz := ?z2) (hz1 := ?z3) (hf1 := ?z4) (hf2 := ?z5) (hI := ?z6) (hns := ?z7) ?_; (case B => k_asm); (case F => k_asm); (case X => k_asm); (case N => k_asm); (case T => k_asm); (case hk => first | exact rfl | with_reducible assumption); (case hdp => ktr_room); (case hun => ktr_units); (case U => k_updF); (case UL => walk_at "My mem"); (case z0 => omega); (case z1 => omega); (case z2 => omega); (case z3 => omega); (case z4 => first | omega | decide); (case z5 => first | omega | decide); (case z6 => with_reducible assumption); (case z7 => omega); intro h' tk' k' x' z' t1' t2' t3' r' F' N' hx' hz' hz1' hr0' hr1'; (try dsimp only))))
local macro_rules | `(tactic| walk_at "newList") => `(tactic| (k_here; k_dflt (refine' newList_K ?k1 ?k2 ?_; (case k1 => k_asm); (case k2 => k_asm); k_whole); intro l' h' F' N' l1; (walk_at "My lt"); (try k_sweep)))

structure EndMark : Prop where
  t : True

local macro_rules | `(tactic| walk_at "call type:set") => `(tactic| ((with_reducible rename EndMark => mk9); (k_here; (with_reducible show wpAny _ _ (call (Value.type "set") [Value.ref _]) _ _ _); k_dflt (refine' set_of ?h ?F ?N ?m ?i ?u ?n ?_; (case h => rfl); (case F => k_asm); (case N => k_asm); (case m => walk_at "My mem"); (case i => with_reducible assumption); (case u => with_reducible assumption); (case n => omega)); intro D' h' tk' es' hS' hI' F' N'; (try dsimp only))))
local macro_rules | `(tactic| walk_at "call type:set cons nil") => `(tactic| ((with_reducible rename EndMark => mk9); walk_at "call type:set"))
local macro_rules | `(tactic| walk_at "call builtin:sorted") => `(tactic| ((with_reducible rename EndMark => mk9); (k_here; (with_reducible show wpAny _ _ (call (Value.builtin "sorted") [Value.ref _]) _ _ _); k_dflt (refine' sorted_set ?h ?F ?N ?S ?i ?u ?n ?_; (case h => rfl); (case F => k_asm); (case N => k_asm); (case S => with_reducible assumption); (case i => with_reducible assumption); (case u => with_reducible assumption); (case n => omega)); intro B' h' tk' dr' vs' c' hI' F' N' l1; (walk_at "My lt"); (try dsimp only))))
local macro_rules | `(tactic| walk_at "compareOp NotEq ref ref") => `(tactic| ((with_reducible rename EndMark => mk9); (k_here; (rename News _ _ _ _ => N9); k_dflt (refine m_neL (m_isList N9 (by walk_at "My mem")) (m_isList N9 (by walk_at "My mem")) (SameL.ints (by with_reducible assumption) (by with_reducible assumption)) (by ktr_units) ?_))))
local macro_rules | `(tactic| walk_at "subscriptTail") => `(tactic| ((with_reducible rename EndMark => mk9); (k_here; (with_reducible show wpAny _ _ (subscriptTail _ _ (Value.ref _) (Value.int _ _)) _ _ _); k_dflt (refine' m_some ?N ?m ?i ?a ?b ?z ?_; (case N => k_asm); (case m => walk_at "My mem"); (case i => exact .cons _ _ (by with_reducible assumption)); (case a => omega); (case b => (simp only [List.length_append, List.length_cons, List.length_nil]; omega)); (case z => (simp only [List.length_append, List.length_cons, List.length_nil]; omega)); k_whole; intro x' t' hx'))))
local macro_rules | `(tactic| walk_at "call type:list") => `(tactic| ((with_reducible rename EndMark => mk9); (k_here; (with_reducible show wpAny _ _ (call (Value.type "list") [Value.ref _]) _ _ _); k_dflt (refine' m_copy ?F ?N ?m ?z ?_; (case F => k_asm); (case N => k_asm); (case m => walk_at "My mem"); (case z => omega)); intro B' k' h' F' N' l1; (walk_at "My lt"); (try dsimp only))))

local macro_rules | `(tactic| walk_at "binaryOp Add ref ref") => `(tactic| ((with_reducible rename EndMark => mk9); (k_here; (with_reducible show wpAny _ _ (binaryOp _ (Value.ref _) (Value.ref _)) _ _ _); k_dflt (refine' m_cat ?F ?N ?a ?b ?z ?_; (case F => k_asm); (case N => k_asm); (case a => walk_at "My mem"); (case b => walk_at "My mem"); (case z => (simp only [List.length_cons, List.length_nil]; omega))); intro D' h' F' N' l1; (walk_at "My lt"); (try dsimp only [List.cons_append, List.nil_append] at N'); (try k_sweep))))
local macro_rules | `(tactic| walk_at "My lt") => `(tactic| ((with_reducible rename EndMark => mk9); ((rename (∀ p : Addr × Obj, p ∈ _ → p.1 < _) => l9); (have l8 := ll_of (by with_reducible assumption) l9 ⟨_, by walk_at "My mem"⟩); clear l9)))
local macro_rules | `(tactic| k_ne) => `(tactic| ((with_reducible rename EndMark => mk9); (refine neN ?_; (try dsimp only); with_reducible first | exact over_UR (by assumption) (by assumption) | exact over_AD (by assumption) (by assumption) | exact over_SD (by assumption) (by assumption) | exact over_HL (by assumption) (by assumption) | exact over_KL (by assumption) (by assumption) | exact over_TR (by assumption) (by assumption))))
local macro_rules | `(tactic| walk_at "My offE") => `(tactic| ((with_reducible rename EndMark => mk9); with_reducible assumption))
local macro_rules | `(tactic| walk_at "My callE") => `(tactic| ((with_reducible rename EndMark => mk9); ((case B => k_asm); (case F => k_asm); (case X => k_asm); (case N => k_asm); (case T => k_asm); (case hk => first | exact rfl | assumption); (case ord => exact Ords.core (by with_reducible assumption)); (case off => with_reducible assumption); (case hA => with_reducible assumption); (case hS => with_reducible assumption); (case hdp => ktr_room); (case hun => ktr_units))))
local macro_rules | `(tactic| walk_at "call ref") => `(tactic| ((with_reducible rename EndMark => mk9); (k_here; (try dsimp only); (with_reducible show wpAny _ _ (call (Value.ref 524) _) _ _ _); k_dflt (refine' c_cut (B := ?B) (F := ?F) (X := ?X) (N := ?N) (T := ?T) (hk := ?hk) (hdp := ?hdp) (hun := ?hun) (ord := ?ord) (off := ?off) (hA := ?hA) (hS := ?hS) (hcnt := ?z1) (hv := ?z2) (hlen := ?z3) (hb1 := ?z4) (hc1 := ?z5) ?_; walk_at "My callE"; (case z1 => with_reducible assumption); (case z2 => with_reducible assumption); (case z3 => omega); (case z4 => omega); (case z5 => with_reducible assumption); intro h' tk' ea' es' b' hb' bb' t1' t2' t3' F' N' hA' hS' hor'; (try dsimp only)))))
local macro_rules | `(tactic| walk_at "call ref") => `(tactic| ((with_reducible rename EndMark => mk9); (k_here; (try dsimp only); (with_reducible show wpAny _ _ (call (Value.ref 482) _) _ _ _); k_dflt (refine' c_set (B := ?B) (F := ?F) (X := ?X) (N := ?N) (T := ?T) (hk := ?hk) (hdp := ?hdp) (hun := ?hun) (ord := ?ord) (off := ?off) (hA := ?hA) (hS := ?hS) (hcnt := ?z1) (hv := ?z2) (hlen := ?z3) (hb1 := ?z4) (hc1 := ?z5) ?_; walk_at "My callE"; (case z1 => with_reducible assumption); (case z2 => with_reducible assumption); (case z3 => omega); (case z4 => omega); (case z5 => with_reducible assumption); intro h' tk' ea' es' hb' bb' t1' t2' t3' F' N' hA' hS' hor'; (try dsimp only); (have hn8 := bok_set (by with_reducible assumption) (by with_reducible assumption) hor')))))
local macro_rules | `(tactic| walk_at "call ref") => `(tactic| ((with_reducible rename EndMark => mk9); (k_here; (try dsimp only); (with_reducible show wpAny _ _ (call (Value.ref 557) _) _ _ _); (rename Inv _ _ _ _ _ _ _ _ => hI9); k_dflt (refine' c_chain (B := ?B) (F := ?F) (X := ?X) (N := ?N) (T := ?T) (hk := ?hk) (hdp := ?hdp) (hun := ?hun) (ord := ?ord) (off := ?off) (hA := ?hA) (hS := ?hS) (hPL := ?z0) (hPI := ?z1) (hpl := ?z2) (hKP := ?z3) (hok := ?z4) (hbx := ?z5) (hch := ?z6) (hlen := ?z7) (hx1 := ?z8) (hneg := ?z9) (hpos := ?z10) ?_; walk_at "My callE"; (case z0 => walk_at "My mem"); (case z1 => with_reducible assumption); (case z2 => omega); (case z3 => walk_at "My mem"); (case z4 => with_reducible assumption); (case z5 => first | exact rfl | with_reducible assumption); (case z6 => exact hI9.chainAt (by with_reducible assumption)); (case z7 => omega); (case z8 => omega); (case z9 => exact bok_neg hI9 (by with_reducible assumption)); (case z10 => exact bok_pos (by with_reducible assumption) (by with_reducible assumption)); intro h' tk' F' N'; (try dsimp only)))))
local macro_rules | `(tactic| walk_at "exec For") => `(tactic| ((with_reducible rename EndMark => mk9); refine halt ?_))
local macro_rules | `(tactic| walk_at "exec For Name Name cons nil") => `(tactic| ((with_reducible rename EndMark => mk9); refine halt ?_))
local macro_rules | `(tactic| walk_at "exec For Name List cons nil") => `(tactic| ((with_reducible rename EndMark => mk9); refine halt ?_))
local macro_rules | `(tactic| walk_at "compareOp NotEq ref ref") => `(tactic| ((with_reducible rename EndMark => mk9); (k_here; (rename News _ _ _ _ => N9); k_dflt (refine m_ne3 (m_isList N9 (by walk_at "My mem")) (m_isList N9 (by walk_at "My mem")) (m_isList N9 (by walk_at "My mem")) (m_isList N9 (by walk_at "My mem")) (m_isList N9 (by walk_at "My mem")) (m_isList N9 (by walk_at "My mem")) (m_isList N9 (by walk_at "My mem")) (m_isList N9 (by walk_at "My mem")) (SameL.refl _) (SameL.refl _) (SameL.refl _) (by k_ne) (by k_ne) (by k_ne) (by ktr_units) ?_); (replace N9 := news_tail N9))))
local macro_rules | `(tactic| walk_at "subscriptTail") => `(tactic| ((with_reducible rename EndMark => mk9); (k_here; (with_reducible show wpAny _ _ (subscriptTail _ _ (Value.ref _) (Value.int (-1) _)) _ _ _); (rename Inv _ _ _ _ _ _ _ _ => hI9); k_dflt (refine' m_back ?k1 ?k2 ?k3 hI9.marks ?_; (case k1 => k_asm); (case k2 => walk_at "My mem"); (case k3 => exact Nat.zero_lt_succ _); k_whole; intro t'))))

set_option maxHeartbeats 8000000 in
theorem final : PySem.Challenge.rw_rh0105_01.Holds := hd (by
  k_go0
  (all_goals try k_fold)
  k_steps
  unfold Halt
  (rename Fr _ _ _ _ => lF0)
  obtain ⟨BB, lF1⟩ := fr_any7 lF0
  revert lF1
  clear lF0
  (repeat (rename Fr _ _ _ _ => zz; clear zz))
  intro lF1
  (rename News _ _ _ _ => lN1)
  revert lN1
  (repeat (rename News _ _ _ _ => zz; clear zz))
  intro lN1
  (try (rename CellsAre _ _ => zz; clear zz))
  (try (rename _ = Data.func _ => zz; clear zz))
  (try (rename Dflts _ _ _ _ _ _ => zz; clear zz))
  (try (rename Heap.CodeRec _ _ _ => zz; clear zz))
  (with_unfolding_all refine' For_invVF lF1 ?k1 ?k2 ?_; (case k1 => exact rfl); (case k2 => exact rfl); k_whole)
  k_steps
  unfold Halt
  have hlen60 : (List.take 60 (by assumption : List Int)).length ≤ 100 := by rw [List.length_take]; omega
  (rename IsRange _ _ _ _ _ _ _ _ => hR9); (rename News _ _ _ _ => lN9); (rename Fr _ _ _ _ => lF9); (rename AIs _ _ _ _ _ _ _ _ _ _ _ => hA9); (rename SIs _ _ _ _ _ _ _ _ _ => hS9)
  k_dflt (refine' law_range [Str.ofString "way", Str.ofString "given", Str.ofString "other", Str.ofString "entries", Str.ofString "address"] ?hord ?hh hR9 (Int.toNat_of_nonneg ?hb).symm ?hn8 lF9 lN9 (AIs.set_cp hA9) hS9 ?hd ⟨?u1, ?u2, ?u3⟩ rfl rfl ?turn ?done)
  case hord => constructor <;> omega
  case hh => rfl
  case hb => omega
  case hn8 => omega
  case hd => assumption
  case u1 => omega
  case u2 => omega
  case u3 => omega
  all_goals clear hR9 lN9 lF9 hA9 hS9
  all_goals (repeat (rename Fr _ _ _ _ => zz; clear zz))
  all_goals (repeat (rename News _ _ _ _ => zz; clear zz))
  all_goals (repeat (rename _ < _ ∧ _ => zz; clear zz))
  all_goals (try (rename CellsAre _ _ _ => zz; clear zz))
  case turn => 
    intro hord i t c u h tk own hi I9 hoff9 of1 of2 F9 N9
    have hi7 : i ≤ 7 := by omega
    clear hi
    (try (rename (∀ b o, Heap.get? _ b = some o → Heap.get? _ b = some o) => zz; clear zz))
    obtain ⟨q1, q2, q3, q4, q5, q6, q7, q8, q9⟩ := of2
    obtain ⟨t0, t1, t2⟩ := I9.top
    have ou1 := hord.o1
    have htops := I9.tops
    have hlast := I9.last
    have hnone := I9.none
    have hlastD := I9.lastD
    have hpl := I9.pi.length
    have hll := I9.li.length
    obtain ⟨hA9, hS9, cp12, lh, lk, lt, ll, lp, lv, e1, e2, b1, ct0, ct1, ct2, ct3, bn, bp, hb0, pi, li, lr, ch, up, kd, ke, ur1, ur2, ur3⟩ := id I9
    have e2b : c.e ≤ 900 := by omega
    have b2b : c.b ≤ 900 := by omega
    refine post_gen fun QQ hQQ => ?_
    k_steps
    next =>
      unfold Halt
      k_dflt (refine LCg.Assign_ListComp_U (F₀ := by k_asm) (by rfl) (by with_unfolding_all rfl) (by with_unfolding_all rfl) (by decide) (by rfl) (by decide) (by rfl) (by rfl) (by rfl) ?_)
      k_steps
      unfold Halt
      k_dflt (refine' my_src (by rfl) (by k_asm) (by k_asm) (by assumption) (by omega) (by omega) ?_)
      intro n9 hn9 g9
      k_dflt (refine' my_compU ?U ⟨?u1, ?u2, ?u3⟩ ?turn1 ?fin)
      case U => k_updF
      case u1 => omega
      case u2 => omega
      case u3 => omega
      case turn1 =>
        clear F9 N9
        intro i9 t9 ys9 x9 z9 tx9 tz9 ku9 I9 oI9 C9 oC9 D9 m9 h9 tk9 E9 hi9 hl9 hx9 hz9 hzz9 hC9 hm9 F9 N9 ne9 ur9
        (try dsimp only at N9)
        refine post_gen fun QR hQR => ?_
        k_steps
        rename News _ _ _ _ => N5
        refine hQR _ _ ?_
        exact ⟨_, _, _, _, _, _, _, _, rfl, rfl, by assumption, by assumption, by assumption, by assumption, fun p hp => N5 p (.tail _ hp)⟩
      case fin =>
        unfold LCg.FinA
        intro ys9 x9 z9 tx9 tz9 ku9 hl9 hx9 hz9 hzz9 D9 h9 tk9 F9 N9 off9
        (try dsimp only at N9 off9)
        have hG9 := off1_canon off9
        have ⟨g1, g2, g3, g4, g5, g6, g7, g8, g9, g10⟩ := hG9
        have hy2 : ys9.length ≤ 2 := by omega
        clear off9
        k_steps
        all_goals
          rename News _ _ _ _ => N5
          refine hQQ _ _ ?_
          k_dflt (refine' way0 I9 of1 hoff9 ⟨?u1, ?u2, ?u3⟩ (by assumption) N5 ?hi ?hg2 ?hG ⟨?hE1, ?hE2⟩ ⟨?hT1, ?hT2⟩ ?hord ?ei ?hd ?hA ?hS rfl rfl ?hr)
          case u1 => omega
          case u2 => omega
          case u3 => omega
          case hi => omega
          case hg2 => omega
          case hG => with_reducible assumption
          case hE1 => with_reducible assumption
          case hE2 => with_reducible assumption
          case hT1 => with_reducible assumption
          case hT2 => (rename (∀ p : Addr × Obj, p ∈ _ :: _ :: _ → p.1 < _) => l7; exact fun p hp => l7 p (.tail _ (.tail _ hp)))
          case hord => with_reducible assumption
          case ei => first
            | exact .cons _ _ (.cons _ _ (.cons _ _ (.cons _ _ (.cons _ _ (.cons _ _ (.cons _ _ .nil))))))
            | (rw [← hlastD (by omega)]; exact .cons _ _ (.cons _ _ (.cons _ _ (.cons _ _ (.cons _ _ (.cons _ _ (.cons _ _ .nil)))))))
            | (rw [hnone (by omega)]; exact .cons _ _ (.cons _ _ (.cons _ _ (.cons _ _ (.cons _ _ (.cons _ _ (.cons _ _ .nil)))))))
          case hd => with_reducible assumption
          case hA => with_reducible assumption
          case hS => with_reducible assumption
          case hr => walk_at "My names"
    all_goals refine hQQ _ _ ?_
    next => walk_at "My way1"
    next => walk_at "My way2"
    next => walk_at "My way2"
    next => walk_at "My way3"
    next => walk_at "My way4"
    next => walk_at "My way3"
    next => walk_at "My way4"
  case done =>
    have endm9 : EndMark := ⟨trivial⟩
    intro hord c u h tk I9 of1 F9 N9
    (try (rename (∀ b o, Heap.get? _ b = some o → Heap.get? _ b = some o) => zz; clear zz))
    obtain ⟨q1, q2, q3, q4, q5, q6, q7, q8, q9⟩ := id of1
    have ou1 := hord.o1
    have hpl := I9.pi.length
    have hll := I9.li.length
    obtain ⟨hA9, hS9, cp12, lh, lk, lt, ll, lp, lv, e1, e2, b1, ct0, ct1, ct2, ct3, bn, bp, hb0, pi, li, lr, ch, up, kd, ke, ur1, ur2, ur3⟩ := id I9
    have hn8 : (1 + (by assumption : Int)).toNat ≤ 8 := by omega
    k_steps
    unfold Halt
    (rename Fr _ _ _ _ => lF'); (with_unfolding_all refine' For_invVF lF' ?k1 ?k2 ?_; (case k1 => exact rfl); (case k2 => exact rfl); k_whole)
    k_steps
    unfold Halt
    rename Fr _ _ _ _ => F5
    rename News _ _ _ _ => N5
    k_dflt (refine' law_cuts12 ?hh hord I9 F5 N5 of1 ?g1 ?g2 ?g3 ?g4 ?g5 ?g6 ?g7 ?g8 ?g9 ?g10 ?g11 ?g12 ?m1 ?m2 ?ho ?turn2 ?done2)
    case hh => rfl
    case g1 => with_reducible assumption
    case g2 => with_reducible assumption
    case g3 => with_reducible assumption
    case g4 => with_reducible assumption
    case g5 => with_reducible assumption
    case g6 => with_reducible assumption
    case g7 => with_reducible assumption
    case g8 => with_reducible assumption
    case g9 => with_reducible assumption
    case g10 => with_reducible assumption
    case g11 => with_reducible assumption
    case g12 => with_reducible assumption
    case m1 => with_reducible assumption
    case m2 => with_reducible assumption
    case ho => (split <;> omega)
    case turn2 =>
      intro Y K kk ks kn d u h tk QQ hK mAX mB3 mB2 mB1 mMK hYx hI hk hl hf hom hC hdb hO F9 N9 hend
      obtain ⟨hA9, hS9, hbo9⟩ := hC
      have hbm := Inv.bm (by with_reducible assumption : Inv _ _ _ _ _ _ _ _)
      obtain ⟨cntb, ctb, hvb, htb, zb1, zb2, zb3, zb4, zb5, zb6⟩ := Inv.at (by with_reducible assumption : Inv _ _ _ _ _ _ _ _) hbm
      have hlo9 := Inv.le_b (by with_reducible assumption : Inv _ _ _ _ _ _ _ _) hom
      k_steps
      unfold Halt
      (rename Fr _ _ _ _ => lF'); (with_unfolding_all refine' For_invVF lF' ?k1 ?k2 ?_; (case k1 => exact rfl); (case k2 => exact rfl); k_whole)
      k_steps
      unfold Halt
      k_dflt (refine' law_cut1 rfl (by with_reducible assumption) (by k_asm) N9 hK hI hk hf ⟨hA9, hS9, hbo9⟩ hdb hO ?turn3 ?done3)
      case turn3 =>
        (repeat (rename Fr _ _ _ _ => zz; clear zz))
        clear N9 hO hA9 hS9 hbo9
        intro x t d0 u0 h0 tk0 own0 cnt ct hv ht Q2 hC0 hO2 hx1 hx2 z1 z2 z3 F9 N9 hend2
        obtain ⟨hA0, hS0, hbo0⟩ := hC0
        k_steps
        rename News _ _ _ _ => N5
        exact hend2 _ _ _ _ _ _ _ _ _ _ _ _ (by assumption) N5 (by with_reducible assumption) (by with_reducible assumption) (by with_reducible assumption)
      case done3 =>
        (repeat (rename Fr _ _ _ _ => zz; clear zz))
        clear N9 hA9 hS9 hbo9 hdb
        rintro ⟨ea2, es2, na2, ns2, b2, hb2, bb2, u32, v12, v22⟩ u2 h2 tk2 ⟨hA2, hS2, hbo2⟩ he2 F9 N9
        dsimp only at hA2 hS2 hbo2 he2 N9
        subst he2
        k_steps
        rename News _ _ _ _ => N5
        rename AIs _ _ _ _ _ _ _ _ _ _ _ => hA5
        rename SIs _ _ _ _ _ _ _ _ _ => hS5
        rename BOK _ _ _ _ => hbo5
        refine cu_fin hA5 hS5 hbo5 (by assumption) N5 hend ?_
        intro z9 k1 k2
        have k3 := stn_ne (a := Str.ofString "b") k2 (by decide)
        simp only [kstB, if_neg k1, if_neg k3, k2, List.contains_nil, Bool.false_eq_true, if_false]
    case done2 =>
      intro m' h tk F9 hk9
      (try dsimp only)
      k_steps)

end
end Mine
theorem PySem.Challenge.cw_rh0105_01_holds : PySem.Challenge.rw_rh0105_01.Holds :=
  Mine.final
