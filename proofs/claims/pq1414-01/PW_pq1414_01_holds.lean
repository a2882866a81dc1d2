import PyProof.Rows.All
import Wide.All
import OpenK.AllK
import Wide.FinOn
import Lean
import PySem.Challenge.RW_pq1414_01
set_option Elab.async false

section
/-! the abstract store of the evaluator: values without tokens, own objects by number -/
namespace Mine
open PySem PySem.W PySem.Calls PyProof.Rows

inductive Bi where
  | len | isi | range | str | int | list
noncomputable def Bi.val : Bi → Value
  | .len => .builtin "len"
  | .isi => .builtin "isinstance"
  | .range => .type "range"
  | .str => .type "str"
  | .int => .type "int"
  | .list => .type "list"
inductive AV where
  | none | bool (b : Bool) | int (i : Int) | str (s : Str) | bi (b : Bi) | old (a : Addr) | own (i : Nat)
inductive AO where
  | inst (C : Addr) (d : Nat)
  | dict (es : List (Str × AV))
  | list (xs : List AV)
  | tup (xs : List AV)
  | cell (v : Option AV)
  | stt (n : Nat)
  | junk
  | exc0 (C : Addr)
  | exc (C : Addr) (d : Nat)
  | trc (C : Addr) (d : Nat)
inductive Tr where
  | nil
  | node (v : Option AO) (l r : Tr)
namespace Tr
noncomputable def get : Tr → Nat → Option AO
  | .nil, _ => none
  | .node v l r, i => match Nat.beq i 0 with
    | true => v
    | false => match Nat.beq (i % 2) 1 with
      | true => l.get (i / 2)
      | false => r.get (i / 2 - 1)
noncomputable def put : Nat → Tr → Nat → AO → Tr
  | 0, t, _, _ => t
  | f + 1, .nil, i, o => match Nat.beq i 0 with
    | true => .node (some o) .nil .nil
    | false => match Nat.beq (i % 2) 1 with
      | true => .node none (put f .nil (i / 2) o) .nil
      | false => .node none .nil (put f .nil (i / 2 - 1) o)
  | f + 1, .node v l r, i, o => match Nat.beq i 0 with
    | true => .node (some o) l r
    | false => match Nat.beq (i % 2) 1 with
      | true => .node v (put f l (i / 2) o) r
      | false => .node v l (put f r (i / 2 - 1) o)
theorem beq_eq (a b : Nat) : Nat.beq a b = decide (a = b) := by
  cases q : Nat.beq a b with
  | true => rw [Nat.eq_of_beq_eq_true q]; simp
  | false => rw [decide_eq_false (Nat.ne_of_beq_eq_false q)]
theorem get_node (v : Option AO) (l r : Tr) (i : Nat) : (node v l r).get i = if i = 0 then v else if i % 2 = 1 then l.get (i / 2) else r.get (i / 2 - 1) := by
  show (match Nat.beq i 0 with | true => v | false => match Nat.beq (i % 2) 1 with | true => l.get (i / 2) | false => r.get (i / 2 - 1)) = _
  rw [beq_eq, beq_eq]
  by_cases h : i = 0
  · simp [h]
  · by_cases q : i % 2 = 1 <;> simp [h, q]
theorem put_nil (f : Nat) (i : Nat) (o : AO) : put (f + 1) .nil i o = put (f + 1) (.node none .nil .nil) i o := by
  unfold put; rfl
theorem put_node (f : Nat) (v : Option AO) (l r : Tr) (i : Nat) (o : AO) : put (f + 1) (.node v l r) i o =
    if i = 0 then .node (some o) l r else if i % 2 = 1 then .node v (put f l (i / 2) o) r else .node v l (put f r (i / 2 - 1) o) := by
  show (match Nat.beq i 0 with | true => Tr.node (some o) l r | false => match Nat.beq (i % 2) 1 with | true => .node v (put f l (i / 2) o) r | false => .node v l (put f r (i / 2 - 1) o)) = _
  rw [beq_eq, beq_eq]
  by_cases h : i = 0
  · simp [h]
  · by_cases q : i % 2 = 1 <;> simp [h, q]
theorem get_empty (j : Nat) : (Tr.node none .nil .nil).get j = none := by
  rw [get_node]
  by_cases h : j = 0
  · rw [if_pos h]
  · rw [if_neg h]; split <;> rfl
theorem get_put (o : AO) : ∀ (f : Nat) (t : Tr) (i j : Nat), i + 1 < 2 ^ f → (put f t i o).get j = if j = i then some o else t.get j
  | 0, t, i, j, h => by simp at h
  | f + 1, t, i, j, h => by
    have key : ∀ v l r, (put (f + 1) (.node v l r) i o).get j = if j = i then some o else (Tr.node v l r).get j := by
      intro v l r
      rw [put_node]
      by_cases h0 : i = 0
      · rw [if_pos h0]
        subst h0
        rw [get_node, get_node]
        by_cases j0 : j = 0 <;> simp [j0]
      · rw [if_neg h0]
        have hp : 2 ^ (f + 1) = 2 * 2 ^ f := by rw [Nat.pow_succ, Nat.mul_comm]
        by_cases h1 : i % 2 = 1
        · rw [if_pos h1, get_node, get_node]
          have ih := get_put o f l (i / 2) (j / 2) (by omega)
          by_cases j0 : j = 0
          · subst j0
            rw [if_pos rfl, if_pos rfl, if_neg (by omega)]
          · rw [if_neg j0, if_neg j0]
            by_cases j1 : j % 2 = 1
            · rw [if_pos j1, if_pos j1, ih]
              by_cases e : j = i
              · subst e; simp
              · rw [if_neg e, if_neg (by omega)]
            · rw [if_neg j1, if_neg j1, if_neg (fun e : j = i => j1 (by rw [e]; exact h1))]
        · rw [if_neg h1, get_node, get_node]
          have ih := get_put o f r (i / 2 - 1) (j / 2 - 1) (by omega)
          by_cases j0 : j = 0
          · subst j0
            rw [if_pos rfl, if_pos rfl, if_neg (by omega)]
          · rw [if_neg j0, if_neg j0]
            by_cases j1 : j % 2 = 1
            · rw [if_pos j1, if_pos j1, if_neg (fun e : j = i => h1 (by rw [← e]; exact j1))]
            · rw [if_neg j1, if_neg j1, ih]
              by_cases e : j = i
              · subst e; simp
              · rw [if_neg e, if_neg (by omega)]
    cases t with
    | nil =>
      rw [put_nil, key, get_empty]
      rfl
    | node v l r => exact key v l r
end Tr

/-- what a loop runs over -/
inductive It where
  | lit (l j : Nat)
  | rit (x n : Nat)
  | sit (s : Str) (j : Nat)

structure St where
  t : Tr
  n : Nat
namespace St
noncomputable def get (σ : St) (i : Nat) : Option AO := σ.t.get i
noncomputable def set (σ : St) (i : Nat) (o : AO) : St := ⟨Tr.put 13 σ.t i o, σ.n⟩
noncomputable def push (σ : St) (o : AO) : St := ⟨Tr.put 13 σ.t σ.n o, σ.n + 1⟩
end St

inductive All2 {α β : Type} (R : α → β → Prop) : List α → List β → Prop
  | nil : All2 R [] []
  | cons {a b l m} : R a b → All2 R l m → All2 R (a :: l) (b :: m)
theorem All2.imp {α β : Type} {R S : α → β → Prop} (h : ∀ a b, R a b → S a b) {l : List α} {m : List β} (x : All2 R l m) : All2 S l m := by
  induction x with
  | nil => exact .nil
  | cons a _ ih => exact .cons (h _ _ a) ih
theorem All2.length {α β : Type} {R : α → β → Prop} {l : List α} {m : List β} (x : All2 R l m) : l.length = m.length := by
  induction x with
  | nil => rfl
  | cons _ _ ih => simp [ih]
theorem All2.get {α β : Type} {R : α → β → Prop} {l : List α} {m : List β} (x : All2 R l m) : ∀ {i : Nat} {a : α}, l[i]? = some a → ∃ b, m[i]? = some b ∧ R a b := by
  induction x with
  | nil => intro i a e; simp at e
  | cons h _ ih =>
    intro i a e
    cases i with
    | zero => simp at e; subst e; exact ⟨_, rfl, h⟩
    | succ i => simpa using ih (by simpa using e)
theorem All2.append {α β : Type} {R : α → β → Prop} {l l' : List α} {m m' : List β} (x : All2 R l m) (y : All2 R l' m') : All2 R (l ++ l') (m ++ m') := by
  induction x with
  | nil => exact y
  | cons h _ ih => exact .cons h ih

noncomputable abbrev As := List Addr
noncomputable def VR (as : As) : AV → Value → Prop
  | .none, v => v = .none
  | .bool b, v => v = .bool b
  | .int i, v => ∃ t, v = .int i t
  | .str s, v => ∃ t, v = .str s t
  | .bi b, v => v = b.val
  | .old a, v => v = .ref a
  | .own i, v => ∃ a, as[i]? = some a ∧ v = .ref a
noncomputable def ER (P : Params) (as : As) (x : Str × AV) (e : DictEntry) : Prop := e.hash = PyData.keyHash P x.1 ∧ (∃ t, e.key = .str x.1 t) ∧ VR as x.2 e.val
/-- the law's own list [row, at] (at below the number) -/
noncomputable def Stt (R : Addr) (n : Nat) (o : Obj) : Prop := ∃ (k : Nat) (t : Tok) (e : Nat), k ≤ n ∧ o = { cls := .type "list", data := .seq #[.ref R, .int (k : Int) t] e }
noncomputable def OR (R : Addr) (z : Nat) (P : Params) (as : As) : AO → Obj → Prop
  | .inst C d, o => ∃ dx, as[d]? = some dx ∧ o = instObj C dx
  | .dict es, o => ∃ l n, o = dictOf l n ∧ All2 (ER P as) es l ∧ (es.map (·.1)).Nodup
  | .list xs, o => ∃ vs n, o = { cls := .type "list", data := .seq (List.toArray vs) n } ∧ All2 (VR as) xs vs
  | .tup xs, o => ∃ vs n, o = { cls := .type "tuple", data := .seq (List.toArray vs) n } ∧ All2 (VR as) xs vs
  | .cell v, o => ∃ c, o.data = .cell c ∧ match v with | none => c = none | some a => ∃ w, c = some w ∧ VR as a w
  | .stt n, o => Stt R (z + n) o
  | .junk, _ => True
  | .exc0 C, o => ∃ vs sl, o = ({ cls := .ref C, data := .fields vs, slots := sl } : Obj) ∧ 5 < vs.size ∧ vs[1]? = some .none
  | .exc C d, o => ∃ dx vs sl, as[d]? = some dx ∧ o = ({ cls := .ref C, dict := some dx, data := .fields vs, slots := sl } : Obj) ∧ 5 < vs.size ∧ vs[1]? = some .none
  | .trc C d, o => ∃ dx vs sl, as[d]? = some dx ∧ o = ({ cls := .ref C, dict := some dx, data := .fields vs, slots := sl } : Obj)

noncomputable def ItR (as : As) : It → Obj → Prop
  | .lit l j, o => ∃ la, as[l]? = some la ∧ o.cls = .type "list_iterator" ∧ o.data = .fields #[.ref la, .int (j : Int) 0]
  | .rit a n, o => o = itR (a : Int) (n : Int)
  | .sit s j, o => ∃ t, (o.cls = .type "str_ascii_iterator" ∨ o.cls = .type "str_iterator") ∧ o.data = .fields #[.str s t, .int (j : Int) 0]

noncomputable def Ex (as as' : As) : Prop := ∃ t, as' = as ++ t
theorem Ex.refl (as : As) : Ex as as := ⟨[], by simp⟩
theorem Ex.trans {a b c : As} (h : Ex a b) (k : Ex b c) : Ex a c := by
  obtain ⟨t, rfl⟩ := h; obtain ⟨u, rfl⟩ := k; exact ⟨t ++ u, by simp⟩
theorem Ex.get {as as' : As} (h : Ex as as') {i : Nat} {a : Addr} (e : as[i]? = some a) : as'[i]? = some a := by
  obtain ⟨t, rfl⟩ := h
  have := (List.getElem?_eq_some_iff.mp e).1
  rw [List.getElem?_append_left this]; exact e
theorem VR.ex {as as' : As} (h : Ex as as') {v : AV} {c : Value} (x : VR as v c) : VR as' v c := by
  cases v <;> first | exact x | skip
  obtain ⟨a, e, r⟩ := x
  exact ⟨a, h.get e, r⟩
theorem ER.ex {P : Params} {as as' : As} (h : Ex as as') {v : Str × AV} {c : DictEntry} (x : ER P as v c) : ER P as' v c := ⟨x.1, x.2.1, x.2.2.ex h⟩
theorem OR.ex {R : Addr} {z : Nat} {P : Params} {as as' : As} (h : Ex as as') {v : AO} {c : Obj} (x : OR R z P as v c) : OR R z P as' v c := by
  cases v with
  | inst C d => obtain ⟨dx, e, r⟩ := x; exact ⟨dx, h.get e, r⟩
  | dict es => obtain ⟨l, n, e, r, nd⟩ := x; exact ⟨l, n, e, r.imp fun _ _ => ER.ex h, nd⟩
  | list xs => obtain ⟨l, n, e, r⟩ := x; exact ⟨l, n, e, r.imp fun _ _ => VR.ex h⟩
  | tup xs => obtain ⟨l, n, e, r⟩ := x; exact ⟨l, n, e, r.imp fun _ _ => VR.ex h⟩
  | cell v =>
    obtain ⟨c, e, r⟩ := x
    refine ⟨c, e, ?_⟩
    cases v with
    | none => exact r
    | some a => obtain ⟨w, e', r'⟩ := r; exact ⟨w, e', r'.ex h⟩
  | stt n => exact x
  | junk => trivial
  | exc0 C => exact x
  | exc C d => obtain ⟨dx, vs, sl, e, r⟩ := x; exact ⟨dx, vs, sl, h.get e, r⟩
  | trc C d => obtain ⟨dx, vs, sl, e, r⟩ := x; exact ⟨dx, vs, sl, h.get e, r⟩

noncomputable abbrev News' := List (Addr × Obj)
noncomputable abbrev adr (news : News') : As := news.map (·.1)

/-- the law's row, which stays -/
noncomputable def RowIn (R : Addr) (ns : List Int) (fz : News') : Prop := ∃ vs n, (R, ({ cls := .type "list", data := .seq (List.toArray vs) n } : Obj)) ∈ fz ∧ IntsAre vs ns ∧ ns.length ≤ 40
structure SR (R : Addr) (z : Nat) (ns : List Int) (P : Params) (h₀ : Heap) (L : Addr) (fz : News') (σ : St) (news : News') (h : Heap) : Prop where
  rw : RowIn R ns fz
  zl : z ≤ 20
  nw : News h₀ L h (news ++ fz)
  nd : (adr (news ++ fz)).Nodup
  ln : news.length = σ.n
  lt : σ.n ≤ 4000
  ob : ∀ i o, σ.get i = some o → ∃ p, news[i]? = some p ∧ OR R z P (adr news) o p.2

section
variable {R : Addr} {z : Nat} {ns : List Int} {P : Params} {h₀ h : Heap} {L : Addr} {fz : News'} {σ : St} {news : News'}
theorem SR.at (S : SR R z ns P h₀ L fz σ news h) {i : Nat} {o : AO} (e : σ.get i = some o) : ∃ a ob, news[i]? = some (a, ob) ∧ (adr news)[i]? = some a ∧ h.get? a = some ob ∧ OR R z P (adr news) o ob := by
  obtain ⟨⟨a, ob⟩, hp, r⟩ := S.ob i o e
  refine ⟨a, ob, hp, by simp [adr, hp], ?_, r⟩
  exact (S.nw (a, ob) (List.mem_append_left _ (List.mem_of_getElem? hp))).1
theorem SR.atV (S : SR R z ns P h₀ L fz σ news h) {i : Nat} {o : AO} {v : Value} (e : σ.get i = some o) (r : VR (adr news) (.own i) v) : ∃ a ob, v = .ref a ∧ news[i]? = some (a, ob) ∧ h.get? a = some ob ∧ OR R z P (adr news) o ob := by
  obtain ⟨a, ob, h1, h2, h3, h4⟩ := S.at e
  obtain ⟨b, h5, rfl⟩ := r
  rw [h2] at h5; cases h5
  exact ⟨_, ob, rfl, h1, h3, h4⟩
theorem SR.idx (S : SR R z ns P h₀ L fz σ news h) {i : Nat} {o : AO} (e : σ.get i = some o) : i < σ.n := by
  obtain ⟨p, hp, _⟩ := S.ob i o e
  rw [← S.ln]; exact (List.getElem?_eq_some_iff.mp hp).1

theorem adr_set {news : News'} {i : Nat} {a : Addr} {ob ob' : Obj} (h : news[i]? = some (a, ob)) : adr (news.set i (a, ob')) = adr news := by
  unfold adr
  rw [List.map_set]
  apply List.ext_getElem? 
  intro j
  rw [List.getElem?_set]
  split
  · rename_i e; subst e
    split
    · simp [h]
    · rename_i q; rw [List.getElem?_eq_none (by simpa using q)]
  · rfl
theorem upd_of {i : Nat} : ∀ {l : News'} {a : Addr} {ob ob' : Obj}, (adr l).Nodup → l[i]? = some (a, ob) → Upd a ob ob' l (l.set i (a, ob')) := by
  induction i with
  | zero =>
    intro l a ob ob' hn h
    cases l with
    | nil => simp at h
    | cons p r =>
      simp at h; subst h
      refine Upd.head fun q hq e => ?_
      simp only [adr, List.map_cons, List.nodup_cons] at hn
      exact hn.1 (e ▸ List.mem_map_of_mem hq)
  | succ i ih =>
    intro l a ob ob' hn h
    cases l with
    | nil => simp at h
    | cons p r =>
      simp only [adr, List.map_cons, List.nodup_cons] at hn
      have h' : r[i]? = some (a, ob) := by simpa using h
      refine Upd.tail (fun e => ?_) (ih hn.2 h')
      exact hn.1 (e ▸ List.mem_map.mpr ⟨_, List.mem_of_getElem? h', rfl⟩)
theorem SR.upd (S : SR R z ns P h₀ L fz σ news h) {i : Nat} {a : Addr} {ob ob' : Obj} (hi : news[i]? = some (a, ob)) : Upd a ob ob' (news ++ fz) (news.set i (a, ob') ++ fz) := by
  have hl := (List.getElem?_eq_some_iff.mp hi).1
  have := upd_of (l := news ++ fz) (i := i) (ob' := ob') S.nd (by rw [List.getElem?_append_left hl]; exact hi)
  rwa [List.set_append_left _ _ hl] at this
/-- behind a store -/
theorem SR.set (S : SR R z ns P h₀ L fz σ news h) {i : Nat} {a : Addr} {ob ob' : Obj} {o o' : AO} (e : σ.get i = some o) (hi : news[i]? = some (a, ob)) (hr : OR R z P (adr news) o' ob') {h' : Heap}
    (N : News h₀ L h' (news.set i (a, ob') ++ fz)) : SR R z ns P h₀ L fz (σ.set i o') (news.set i (a, ob')) h' := by
  have ha := adr_set (ob' := ob') hi
  refine ⟨S.rw, S.zl, N, ?_, by rw [List.length_set]; exact S.ln, S.lt, fun j q hj => ?_⟩
  · have := S.nd
    unfold adr at ha this ⊢
    rw [List.map_append] at this ⊢
    rw [ha]; exact this
  · have lt := S.idx e
    have le := S.lt
    have : (Tr.put 13 σ.t i o').get j = some q := hj
    rw [Tr.get_put o' 13 σ.t i j (by omega)] at this
    rw [ha]
    by_cases ji : j = i
    · subst ji
      rw [if_pos rfl] at this
      cases this
      exact ⟨(a, ob'), by rw [List.getElem?_set_self (by rw [S.ln]; exact lt)], hr⟩
    · rw [if_neg ji] at this
      obtain ⟨p, hp, r⟩ := S.ob j q this
      exact ⟨p, by rw [List.getElem?_set_ne (fun z => ji z.symm)]; exact hp, r⟩
/-- behind a making -/
theorem SR.push (S : SR R z ns P h₀ L fz σ news h) {a : Addr} {ob : Obj} {o : AO} (hr : OR R z P (adr news ++ [a]) o ob) (hn : σ.n < 4000) {h' : Heap}
    (N : News h₀ L h' ((a, ob) :: (news ++ fz))) (hf : ∀ p ∈ news ++ fz, p.1 ≠ a) : SR R z ns P h₀ L fz (σ.push o) (news ++ [(a, ob)]) h' := by
  have ex : Ex (adr news) (adr (news ++ [(a, ob)])) := ⟨[a], by simp [adr]⟩
  refine ⟨S.rw, S.zl, fun p hp => N p ?_, ?_, ?_, by show σ.n + 1 ≤ 4000; omega, fun j q hj => ?_⟩
  · simp only [List.append_assoc, List.mem_append, List.mem_cons, List.not_mem_nil, or_false, List.singleton_append] at hp ⊢
    rcases hp with hp | hp | hp
    · exact .inr (.inl hp)
    · exact .inl hp
    · exact .inr (.inr hp)
  · have nd := S.nd
    simp only [adr, List.map_append, List.append_assoc, List.map_cons, List.map_nil, List.singleton_append] at nd ⊢
    have e : (news.map (·.1) ++ a :: fz.map (·.1)).Perm (a :: (news.map (·.1) ++ fz.map (·.1))) := List.perm_middle
    refine e.nodup_iff.mpr (List.nodup_cons.mpr ⟨fun hm => ?_, nd⟩)
    rw [← List.map_append] at hm
    obtain ⟨p, hp, e⟩ := List.mem_map.mp hm
    exact hf p hp e
  · show (news ++ [(a, ob)]).length = σ.n + 1
    rw [List.length_append, S.ln]; rfl
  · have : (Tr.put 13 σ.t σ.n o).get j = some q := hj
    rw [Tr.get_put o 13 σ.t σ.n j (by omega)] at this
    by_cases ji : j = σ.n
    · subst ji
      rw [if_pos rfl] at this
      cases this
      exact ⟨(a, ob), by rw [← S.ln]; simp, by simpa [adr] using hr⟩
    · rw [if_neg ji] at this
      obtain ⟨p, hp, r⟩ := S.ob j q this
      have hl := (List.getElem?_eq_some_iff.mp hp).1
      exact ⟨p, by rw [List.getElem?_append_left hl]; exact hp, r.ex ex⟩
end

/-- names compared sign by sign -/
noncomputable def neq : List Nat → List Nat → Bool
  | [], [] => true
  | a :: l, b :: m => match Nat.beq a b with
    | true => neq l m
    | false => false
  | _, _ => false
theorem neq_iff : ∀ {l m : List Nat}, neq l m = true ↔ l = m
  | [], [] => by simp [neq]
  | [], _ :: _ => by simp [neq]
  | _ :: _, [] => by simp [neq]
  | a :: l, b :: m => by
    unfold neq
    rw [Tr.beq_eq]
    by_cases h : a = b
    · subst h; simp [neq_iff]
    · simp [h]
noncomputable def seq (x y : Str) : Bool := neq x.cps.toList y.cps.toList
theorem seq_iff {x y : Str} : seq x y = true ↔ x = y := by
  unfold seq
  rw [neq_iff]
  constructor
  · intro h
    obtain ⟨⟨a⟩⟩ := x; obtain ⟨⟨b⟩⟩ := y
    simp at h; subst h; rfl
  · rintro rfl; rfl
theorem seq_false {x y : Str} (h : seq x y = false) : x ≠ y := fun e => by rw [seq_iff.mpr e] at h; cases h
theorem seq_self (x : Str) : seq x x = true := seq_iff.mpr rfl

/-- an association by names -/
noncomputable def lk {α : Type} : List (Str × α) → Str → Option α
  | [], _ => none
  | p :: l, x => match seq p.1 x with
    | true => some p.2
    | false => lk l x
noncomputable def put {α : Type} : List (Str × α) → Str → α → List (Str × α)
  | [], x, v => [(x, v)]
  | p :: l, x, v => match seq p.1 x with
    | true => (p.1, v) :: l
    | false => p :: put l x v
theorem lk_cons {α : Type} (p : Str × α) (l : List (Str × α)) (x : Str) : lk (p :: l) x = bif seq p.1 x then some p.2 else lk l x := by
  show (match seq p.1 x with | true => some p.2 | false => lk l x) = _
  cases seq p.1 x <;> rfl
theorem put_cons {α : Type} (p : Str × α) (l : List (Str × α)) (x : Str) (v : α) : put (p :: l) x v = bif seq p.1 x then (p.1, v) :: l else p :: put l x v := by
  show (match seq p.1 x with | true => (p.1, v) :: l | false => p :: put l x v) = _
  cases seq p.1 x <;> rfl
theorem lk_put {α : Type} (x : Str) (v : α) (y : Str) : ∀ l : List (Str × α), lk (put l x v) y = if y = x then some v else lk l y
  | [] => by
    show lk [(x, v)] y = _
    rw [lk_cons]
    cases h : seq x y with
    | true => rw [seq_iff.mp h]; simp
    | false => rw [if_neg (fun e => seq_false h e.symm)]; rfl
  | p :: l => by
    rw [put_cons, lk_cons]
    cases h : seq p.1 x with
    | true =>
      have := seq_iff.mp h
      simp only [cond_true, lk_cons]
      cases q : seq p.1 y with
      | true => rw [if_pos (by rw [← seq_iff.mp q, this])]; rfl
      | false => rw [if_neg (fun e => seq_false q (by rw [this, e]))]; rfl
    | false =>
      simp only [cond_false, lk_cons]
      rw [lk_put x v y l]
      cases q : seq p.1 y with
      | true =>
        have := seq_iff.mp q
        simp only [cond_true]; rw [if_neg (fun e => seq_false h (by rw [this, e]))]
      | false => rfl
theorem put_mem {α : Type} (x : Str) (v : α) (y : Str) : ∀ l : List (Str × α), y ∈ (put l x v).map (·.1) ↔ y = x ∨ y ∈ l.map (·.1)
  | [] => by
    show y ∈ [x] ↔ _
    simp
  | p :: l => by
    rw [put_cons]
    cases h : seq p.1 x with
    | true => have := seq_iff.mp h; subst this; simp
    | false =>
      simp only [cond_false, List.map_cons, List.mem_cons]
      rw [put_mem x v y l]
      constructor
      · rintro (h | h | h)
        · exact .inr (.inl h)
        · exact .inl h
        · exact .inr (.inr h)
      · rintro (h | h | h)
        · exact .inr (.inl h)
        · exact .inl h
        · exact .inr (.inr h)
theorem put_nodup {α : Type} (x : Str) (v : α) : ∀ l : List (Str × α), (l.map (·.1)).Nodup → ((put l x v).map (·.1)).Nodup
  | [], _ => by show [x].Nodup; simp
  | p :: l, h => by
    rw [List.map_cons, List.nodup_cons] at h
    rw [put_cons]
    cases q : seq p.1 x with
    | true => simp only [cond_true, List.map_cons, List.nodup_cons]; exact h
    | false =>
      simp only [cond_false, List.map_cons, List.nodup_cons]
      refine ⟨fun hm => ?_, put_nodup x v l h.2⟩
      rcases (put_mem x v p.1 l).mp hm with e | e
      · exact seq_false q e
      · exact h.1 e
theorem seq_beq (x y : Str) : (x == y) = seq x y := by
  cases h : seq x y with
  | true => rw [seq_iff.mp h]; exact beq_self_eq_true y
  | false => exact beq_eq_false_iff_ne.mpr (seq_false h)
theorem lk_lookup {α : Type} (x : Str) : ∀ l : List (Str × α), lk l x = l.lookup x
  | [] => rfl
  | p :: l => by
    rw [lk_cons, List.lookup_cons, ← lk_lookup x l]
    cases q : seq p.1 x with
    | true => rw [seq_iff.mp q, beq_self_eq_true]; rfl
    | false => rw [beq_eq_false_iff_ne.mpr fun e => seq_false q e.symm]; rfl
end Mine
end

section
/-! the evaluator: in continuation style, by fuel -/
namespace Mine
open PySem PySem.W PySem.W.X PySem.Calls PyProof.Rows

structure FnD where
  pars : List Str
  dfl : List AV
  body : List Stmt
  names : List (Str × NameKind)
structure ClD where
  exc : Bool
  init : Addr
  meths : List (Str × Addr)
  free : List Str
structure Sg where
  T : KT
  cls : List (Nat × ClD)
  take : Nat
  glob : List (Str × AV)
  /-- objects of the first are none of the second -/
  isn : List (Nat × Nat)
noncomputable def lkN {α : Type} : List (Nat × α) → Nat → Option α
  | [], _ => none
  | p :: l, x => match Nat.beq p.1 x with
    | true => some p.2
    | false => lkN l x
noncomputable def mem (x : Str) : List Str → Bool
  | [] => false
  | y :: l => match seq x y with
    | true => true
    | false => mem x l
noncomputable def nodupB : List Str → Bool
  | [] => true
  | x :: l => match mem x l with
    | true => false
    | false => nodupB l

/-! the defs, read off the text's own objects -/
noncomputable def litV : Value → Option AV
  | .none => some .none
  | .bool b => some (.bool b)
  | .int i _ => some (.int i)
  | .str s _ => some (.str s)
  | _ => none
noncomputable def litL : List Value → Option (List AV)
  | [] => some []
  | v :: r => match litV v with
    | some a => (match litL r with
      | some l => some (a :: l)
      | none => none)
    | none => none
noncomputable def dflAt (T : KT) : Value → Option (List Value)
  | .none => some []
  | .ref t => (match T.get t with
    | some o => (match o.data with
      | .seq vs _ => some vs.toList
      | _ => none)
    | none => none)
  | _ => none
noncomputable def codeAt (T : KT) (cd : Value) (q : Str) : Bool := match cd with
  | .ref c => (match T.get c with
    | some o => (match o.data with
      | .fields vs => (match vs.toList with
        | _ :: .str n _ :: _ => seq n q
        | _ => false)
      | _ => false)
    | none => false)
  | _ => false
noncomputable def locOrCell (names : List (Str × NameKind)) : List Str → Bool
  | [] => true
  | x :: r => match lk names x with
    | some .local => locOrCell names r
    | some .cell => locOrCell names r
    | _ => false
/-- the cells of a frame, newest first, as the machine lays them -/
noncomputable def cellNames : List (Str × NameKind) → List Str → List Str
  | [], acc => acc
  | (x, .cell) :: r, acc => cellNames r (x :: acc)
  | _ :: r, acc => cellNames r acc
noncomputable def cellsOk (names : List (Str × NameKind)) : List Str → Bool
  | [] => true
  | x :: r => match lk names x with
    | some .cell => cellsOk names r
    | _ => false
noncomputable def isFun : ScopeKind → Bool
  | .function => true
  | _ => false
noncomputable def nDebug : Str := ⟨#[95, 95, 100, 101, 98, 117, 103, 95, 95]⟩
noncomputable def parNames : List Arg → List Str
  | [] => []
  | a :: r => a.arg :: parNames r
noncomputable def bodyOf : FuncBody → Option (List Stmt)
  | .stmts b => some b
  | _ => none
noncomputable def fnOk (T : KT) (fd : FuncData) : Bool :=
  fd.params.posonlyargs.isEmpty && fd.params.vararg.isNone && fd.params.kwonlyargs.isEmpty && fd.params.kwarg.isNone && fd.closure.isEmpty &&
  Nat.beq fd.globals mainGlobals && Nat.beq fd.builtins builtinsNs && isFun fd.scope.kind && !fd.scope.isGenerator && !fd.scope.isCoroutine &&
  codeAt T fd.code fd.qualname && locOrCell fd.scope.names (parNames fd.params.args) && nodupB (parNames fd.params.args) && nodupB (cellNames fd.scope.names []) && (lk fd.scope.names nDebug).isNone && cellsOk fd.scope.names (cellNames fd.scope.names []) && Nat.blt (cellNames fd.scope.names []).length 90
noncomputable def fnAt (T : KT) (f : Nat) : Option FnD := match T.get f with
  | some o => (match o.data with
    | .func fd => (match bodyOf fd.body with
      | some b => (match dflAt T fd.defaults with
        | some dv => (match litL dv with
          | some dl => (match fnOk T fd with
            | true => some ⟨parNames fd.params.args, dl, b, fd.scope.names⟩
            | false => none)
          | none => none)
        | none => none)
      | none => none)
    | _ => none)
  | none => none

inductive Ent where
  | val (a : AV)
  | cell (i : Nat)
noncomputable abbrev Loc := List (Str × Ent)
inductive Fl where
  | next | brk | cont | ret (v : AV)
noncomputable abbrev KE := AV → St → Bool
noncomputable abbrev KEs := List AV → St → Bool
noncomputable abbrev KT' := Bool → St → Bool
noncomputable abbrev KS := Fl → Loc → St → Bool
noncomputable abbrev KX := AV → Loc → St → Bool
noncomputable def nx : KE := fun _ _ => false
noncomputable def nxs : KX := fun _ _ _ => false

structure Cn where
  names : List (Str × NameKind)
  rz : Bool

noncomputable def truth : AV → Option Bool
  | .none => some false
  | .bool b => some b
  | _ => none
noncomputable def isNone : AV → Bool
  | .none => true
  | _ => false
noncomputable def intLt (a b : Int) : Bool := decide (a < b)
noncomputable def intEq (a b : Int) : Bool := decide (a = b)
noncomputable def intsOf : List AV → Option (List Int)
  | [] => some []
  | .int i :: l => (match intsOf l with
    | some r => some (i :: r)
    | none => none)
  | _ => none
noncomputable def strsOf : List AV → Option (List Str)
  | [] => some []
  | .str s :: l => (match strsOf l with
    | some r => some (s :: r)
    | none => none)
  | _ => none
noncomputable def intsEq : List Int → List Int → Bool
  | [], [] => true
  | a :: l, b :: m => match intEq a b with
    | true => intsEq l m
    | false => false
  | _, _ => false
noncomputable def strsEq : List Str → List Str → Bool
  | [], [] => true
  | a :: l, b :: m => match seq a b with
    | true => strsEq l m
    | false => false
  | _, _ => false
/-- is a str among strs -/
noncomputable def strIn (s : Str) (l : List AV) : Option Bool := match strsOf l with
  | some ys => some (ys.any fun y => seq y s)
  | none => none
noncomputable def nDigits : Str := ⟨#[48, 49, 50, 51, 52, 53, 54, 55, 56, 57]⟩
/-- one sign among the figures -/
noncomputable def charIn (s t : Str) : Option Bool := match seq t nDigits with
  | true => (match s.cps.toList with
    | [c] => match Nat.ble 46 c && Nat.ble c 57 with
      | true => some (Nat.ble 48 c)
      | false => none
    | _ => none)
  | false => none
noncomputable def okCps : List Nat → Bool
  | [] => true
  | c :: r => match Nat.blt c 1114112 with
    | true => okCps r
    | false => false
noncomputable def okStrs : List Str → Bool
  | [] => true
  | s :: r => match okCps s.cps.toList with
    | true => okStrs r
    | false => false
noncomputable def neList (xs ys : List AV) : Option Bool := match intsOf xs with
  | some a => (match intsOf ys with
    | some b => some (!intsEq a b)
    | none => none)
  | none => (match strsOf xs with
    | some a => (match strsOf ys with
      | some b => match okStrs a && okStrs b with
        | true => some (!strsEq a b)
        | false => none
      | none => none)
    | none => none)
noncomputable def inV (a b : AV) (σ : St) : Option Bool := match a with
  | .str s => (match b with
    | .own j => (match σ.get j with
      | some (.tup xs) => strIn s xs
      | some (.list xs) => strIn s xs
      | _ => none)
    | .str t => charIn s t
    | _ => none)
  | .none => (match b with
    | .own j => (match σ.get j with
      | some (.list xs) => (match strsOf xs with
        | some _ => some false
        | none => none)
      | _ => none)
    | _ => none)
  | _ => none
noncomputable def cmpV (op : CmpOp) (a b : AV) (σ : St) : Option Bool := match op with
  | .Is => (match b with | .none => some (isNone a) | _ => none)
  | .IsNot => (match b with | .none => some (!isNone a) | _ => none)
  | .Lt => (match a, b with | .int a, .int b => some (intLt a b) | _, _ => none)
  | .LtE => (match a, b with | .int a, .int b => some (!intLt b a) | _, _ => none)
  | .Gt => (match a, b with | .int a, .int b => some (intLt b a) | _, _ => none)
  | .GtE => (match a, b with | .int a, .int b => some (!intLt a b) | _, _ => none)
  | .Eq => (match a, b with
    | .int a, .int b => some (intEq a b)
    | .str a, .str b => some (seq a b)
    | _, _ => none)
  | .NotEq => (match a, b with
    | .int a, .int b => some (!intEq a b)
    | .str a, .str b => some (!seq a b)
    | .bool a, .bool b => some (a != b)
    | .own i, .own j => (match σ.get i, σ.get j with
      | some (.list xs), some (.list ys) => neList xs ys
      | _, _ => none)
    | _, _ => none)
  | .In => inV a b σ
  | .NotIn => (match inV a b σ with
    | some q => some (!q)
    | none => none)

/-- a making: below the lid -/
noncomputable def mk (σ : St) (o : AO) (k : KE) : Bool := match Nat.blt σ.n 3900 with
  | true => k (.own σ.n) (σ.push o)
  | false => false
noncomputable def binV (op : Operator) (a b : AV) (σ : St) (k : KE) : Bool := match op with
  | .Add => (match a, b with
    | .int a, .int b => k (.int (a + b)) σ
    | .str a, .str b => match Nat.blt (a.cps.toList.length + b.cps.toList.length) 1000 with
      | true => k (.str ⟨(a.cps.toList ++ b.cps.toList).toArray⟩) σ
      | false => false
    | .own i, .own j => (match σ.get i, σ.get j with
      | some (.list xs), some (.list ys) => match Nat.blt (xs.length + ys.length) 1000 with
        | true => mk σ (.list (xs ++ ys)) k
        | false => false
      | _, _ => false)
    | _, _ => false)
  | .Sub => (match a, b with
    | .int a, .int b => k (.int (a - b)) σ
    | _, _ => false)
  | .Mult => (match a, b with
    | .own i, .int n => (match σ.get i with
      | some (.list [v]) => match decide (0 ≤ n) && decide (n < 1000) with
        | true => mk σ (.list (List.replicate n.toNat v)) k
        | false => false
      | _ => false)
    | _, _ => false)
  | _ => false
/-- an item in bounds -/
noncomputable def itemV (σ : St) (o i : AV) (k : KE) : Bool := match i with
  | .int n => match decide (0 ≤ n) && decide (n < 1000) with
    | true => (match o with
      | .own j => (match σ.get j with
        | some (.list xs) => (match xs[n.toNat]? with | some v => k v σ | none => false)
        | some (.tup xs) => (match xs[n.toNat]? with | some v => k v σ | none => false)
        | _ => false)
      | _ => false)
    | false => false
  | _ => false
/-- a slice from n on -/
noncomputable def sliceFrom (σ : St) (o : AV) (n : Nat) (k : KE) : Bool := match o with
  | .own j => (match σ.get j with
    | some (.list xs) => match Nat.blt xs.length 1000 with
      | true => mk σ (.list (xs.drop n)) k
      | false => false
    | _ => false)
  | .str s => match Nat.blt s.cps.toList.length 1000 with
    | true => k (.str ⟨(s.cps.toList.drop n).toArray⟩) σ
    | false => false
  | _ => false
/-- a slice up to n -/
noncomputable def sliceTo (σ : St) (o i : AV) (k : KE) : Bool := match o, i with
  | .own j, .int n => (match σ.get j with
    | some (.list xs) => match decide (0 ≤ n) && decide (n < 1000) && Nat.blt xs.length 1000 with
      | true => mk σ (.list (xs.take n.toNat)) k
      | false => false
    | _ => false)
  | _, _ => false

variable (G : Sg)
/-- an field of an object's own -/
noncomputable def instOf (σ : St) (i : Nat) : Option (Nat × Nat × Bool) := match σ.get i with
  | some (.inst C d) => some (C, d, false)
  | some (.exc C d) => some (C, d, true)
  | some (.trc C d) => some (C, d, true)
  | _ => none
noncomputable def eqB : Bool → Bool → Bool
  | true, b => b
  | false, b => !b
noncomputable def getV (σ : St) (o : AV) (a : Str) (k : KE) : Bool := match o with
  | .own i => (match instOf σ i with
    | some (C, d, b) => (match σ.get d with
      | some (.dict es) => (match lk es a with
        | some v => (match lkN G.cls C with
          | some cd => match mem a cd.free && eqB b cd.exc with
            | true => k v σ
            | false => false
          | none => false)
        | none => false)
      | _ => false)
    | _ => false)
  | _ => false
noncomputable def setV (σ : St) (o : AV) (a : Str) (v : AV) (k : St → Bool) : Bool := match o with
  | .own i => (match instOf σ i with
    | some (C, d, b) => (match σ.get d with
      | some (.dict es) => (match lkN G.cls C with
        | some cd => match mem a cd.free && eqB b cd.exc && Nat.blt es.length 900 with
          | true => k (σ.set d (.dict (put es a v)))
          | false => false
        | none => false)
      | _ => false)
    | none => (match σ.get i with
      | some (.exc0 C) => (match lkN G.cls C with
        | some cd => match mem a cd.free && cd.exc && Nat.blt σ.n 3900 with
          | true => k ((σ.push (.dict [(a, v)])).set i (.exc C σ.n))
          | false => false
        | none => false)
      | _ => false))
  | _ => false
/-- d[x] = v, of a dict of strs -/
noncomputable def storeV (σ : St) (o i v : AV) (k : St → Bool) : Bool := match o with
  | .own j => (match i with
    | .str x => (match σ.get j with
      | some (.dict es) => match Nat.blt es.length 900 with
        | true => k (σ.set j (.dict (put es x v)))
        | false => false
      | _ => false)
    | _ => false)
  | _ => false

/-- the values of all parameters -/
noncomputable def fill : List Str → List AV → List AV → Option (List AV)
  | [], _, [] => some []
  | [], _, _ :: _ => none
  | p :: ps, dfl, [] => match Nat.ble (ps.length + 1) dfl.length with
    | true => some (dfl.drop (dfl.length - (ps.length + 1)))
    | false => none
  | _ :: ps, dfl, a :: as => match fill ps dfl as with
    | some r => some (a :: r)
    | none => none
/-- the frame's locals, its cells made -/
noncomputable def bindCells : List Str → List (Str × AV) → Loc → St → Loc × St
  | [], _, ρ, σ => (ρ, σ)
  | x :: r, b, ρ, σ => bindCells r b ((x, .cell σ.n) :: ρ) (σ.push (.cell (lk b x)))
noncomputable def bindLoc : List (Str × NameKind) → List (Str × AV) → Loc
  | _, [] => []
  | ns, (x, v) :: r => match lk ns x with
    | some .local => (x, .val v) :: bindLoc ns r
    | _ => bindLoc ns r

structure Ev where
  E : Nat → Cn → Expr → Loc → St → KE → KE → Bool
  Es : Nat → Cn → List Expr → Loc → St → KE → KEs → Bool
  T : Nat → Cn → Expr → Loc → St → KE → KT' → Bool
  S : Nat → Cn → Stmt → Loc → St → KX → KS → Bool
  Ss : Nat → Cn → List Stmt → Loc → St → KX → KS → Bool
  C : Nat → Nat → List AV → St → KE → KE → Bool
  /-- a loop over an iterator -/
  L : Nat → Cn → Expr → List Stmt → It → Loc → St → KS → Bool
  W : Nat → Cn → Expr → List Stmt → Loc → St → KS → Bool
  /-- a comprehension over an iterator, into a list -/
  P : Nat → Cn → Expr → Str → List Expr → It → Nat → Loc → St → KE → Bool
noncomputable def ev0 : Ev := ⟨fun _ _ _ _ _ _ _ => false, fun _ _ _ _ _ _ _ => false, fun _ _ _ _ _ _ _ => false, fun _ _ _ _ _ _ _ => false, fun _ _ _ _ _ _ _ => false, fun _ _ _ _ _ _ => false,
  fun _ _ _ _ _ _ _ _ => false, fun _ _ _ _ _ _ _ => false, fun _ _ _ _ _ _ _ _ _ _ => false⟩

noncomputable def evName (c : Cn) (x : Str) (ρ : Loc) (σ : St) (k : KE) : Bool := match lk ρ x with
  | some (.val a) => k a σ
  | some (.cell i) => (match σ.get i with
    | some (.cell (some a)) => k a σ
    | _ => false)
  | none => (match lk c.names x with
    | some .globalImplicit => (match lk G.glob x with
      | some a => k a σ
      | none => false)
    | _ => false)
noncomputable def nAppend : Str := ⟨#[97, 112, 112, 101, 110, 100]⟩
noncomputable def nPop : Str := ⟨#[112, 111, 112]⟩
noncomputable def nGet : Str := ⟨#[103, 101, 116]⟩
noncomputable def nStartswith : Str := ⟨#[115, 116, 97, 114, 116, 115, 119, 105, 116, 104]⟩
noncomputable def memN (a b : Nat) : List (Nat × Nat) → Bool
  | [] => false
  | p :: r => match Nat.beq p.1 a && Nat.beq p.2 b with
    | true => true
    | false => memN a b r
/-- built-ins and built-in classes called -/
noncomputable def callB (isn : List (Nat × Nat)) (f : Bi) (vs : List AV) (σ : St) (k : KE) : Bool := match f with
  | .len => (match vs with
    | [.own i] => (match σ.get i with
        | some (.list xs) => match Nat.blt xs.length 1000 with
          | true => k (.int (Int.ofNat xs.length)) σ
          | false => false
        | some (.tup xs) => match Nat.blt xs.length 1000 with
          | true => k (.int (Int.ofNat xs.length)) σ
          | false => false
        | _ => false)
    | [.str s] => match Nat.blt s.cps.toList.length 1000 with
        | true => k (.int (Int.ofNat s.cps.toList.length)) σ
        | false => false
    | _ => false)
  | .isi => (match vs with
    | [.own i, .old C] => (match σ.get i with
        | some (.inst D _) => (match Nat.beq D C with
          | true => k (.bool true) σ
          | false => match memN D C isn with
            | true => k (.bool false) σ
            | false => false)
        | _ => false)
    | _ => false)
  | .list => (match vs with
    | [.own i] => (match σ.get i with
        | some (.list xs) => match Nat.blt xs.length 1000 with
          | true => mk σ (.list xs) k
          | false => false
        | _ => false)
    | _ => false)
  | .str => (match vs with
    | [.int i] => match decide (0 ≤ i) && decide (i < 10) with
          | true => k (.str ⟨#[48 + i.toNat]⟩) σ
          | false => false
    | _ => false)
  | .int => (match vs with
    | [.str s] => (match s.cps.toList with
            | [c] => match Nat.ble 48 c && Nat.ble c 57 with
              | true => k (.int (Int.ofNat (c - 48))) σ
              | false => false
            | _ => false)
    | _ => false)
  | .range => false
/-- the methods of built-in types -/
inductive Mt where
  | append | pop | get | startswith
noncomputable def methOf (o : AV) (σ : St) (a : Str) : Option Mt := match o with
  | .own i => (match σ.get i with
    | some (.list _) => (match seq a nAppend with
      | true => some .append
      | false => match seq a nPop with
        | true => some .pop
        | false => none)
    | some (.dict _) => (match seq a nGet with
      | true => some .get
      | false => none)
    | _ => none)
  | .str _ => (match seq a nStartswith with
    | true => some .startswith
    | false => none)
  | _ => none
noncomputable def listAt (σ : St) : AV → Option (Nat × List AV)
  | .own i => (match σ.get i with
    | some (.list xs) => some (i, xs)
    | _ => none)
  | _ => none
noncomputable def dictAt (σ : St) : AV → Option (Nat × List (Str × AV))
  | .own i => (match σ.get i with
    | some (.dict es) => some (i, es)
    | _ => none)
  | _ => none
noncomputable def callM (mt : Mt) (o : AV) (vs : List AV) (σ : St) (k : KE) : Bool := match mt with
  | .append => (match listAt σ o with
    | some (i, xs) => (match vs with
      | [v] => match Nat.blt xs.length 900 with
        | true => k .none (σ.set i (.list (xs ++ [v])))
        | false => false
      | _ => false)
    | none => false)
  | .pop => (match listAt σ o with
    | some (i, xs) => (match vs with
      | [] => match Nat.blt xs.length 900 with
        | true => (match xs.getLast? with
          | some v => k v (σ.set i (.list xs.dropLast))
          | none => false)
        | false => false
      | _ => false)
    | none => false)
  | .get => (match dictAt σ o with
    | some (_, es) => (match vs with
      | [.str x] => (match lk es x with
          | some v => k v σ
          | none => k .none σ)
      | _ => false)
    | none => false)
  | .startswith => (match o with
    | .str s => (match vs with
      | [.str t] => k (.bool (neq (s.cps.toList.take t.cps.toList.length) t.cps.toList)) σ
      | _ => false)
    | _ => false)
noncomputable def isComp : Expr → Bool
  | .ListComp .. | .SetComp .. | .DictComp .. => true
  | _ => false
noncomputable def isCallE : Expr → Bool
  | .Call .. => true
  | _ => false
noncomputable def isSetE : Expr → Bool
  | .Set .. => true
  | _ => false
noncomputable def isStar : Expr → Bool
  | .Starred .. => true
  | _ => false
noncomputable def noStar : List Expr → Bool
  | [] => true
  | e :: r => match isStar e with
    | true => false
    | false => noStar r
/-- what an object's field holds, if the object has it itself; or its class's def -/
inductive Got where
  | own (v : AV)
  | meth (f : Nat)
noncomputable def findV (σ : St) (C d : Nat) (a : Str) : Option Got := match σ.get d with
  | some (.dict es) => (match lkN G.cls C with
    | some cd => (match cd.exc with
      | true => none
      | false => (match lk es a with
        | some v => match mem a cd.free with
          | true => some (.own v)
          | false => none
        | none => (match lk cd.meths a with
          | some f => some (.meth f)
          | none => none)))
    | none => none)
  | _ => none

/-- draws: all values -/
noncomputable def draws (k : KE) (σ : St) : Nat → Bool
  | 0 => true
  | m + 1 => match k (.int (Int.ofNat m)) σ with
    | true => draws k σ m
    | false => false
noncomputable def takeV (vs : List AV) (σ : St) (k : KE) : Bool := match vs with
  | [.own i, .int m] => (match σ.get i with
    | some (.stt n) => match decide (2 ≤ m) && decide (m ≤ 6) && Nat.blt n 20 && Nat.blt σ.n 3900 with
      | true => draws k (σ.set i (.stt (n + 1))) m.toNat
      | false => false
    | _ => false)
  | _ => false
noncomputable def makeV (ih : Ev) (d : Nat) (C : Nat) (cd : ClD) (vs : List AV) (σ : St) (x k : KE) : Bool := match Nat.blt σ.n 3900 with
  | true => match cd.exc with
    | true => match Nat.blt vs.length 100 with
      | true => ih.C d cd.init (.own σ.n :: vs) (σ.push (.exc0 C)) x fun v σ' => match v with
        | .none => k (.own σ.n) σ'
        | _ => false
      | false => false
    | false => ih.C d cd.init (.own (σ.n + 1) :: vs) ((σ.push (.dict [])).push (.inst C σ.n)) x fun v σ' => match v with
      | .none => k (.own (σ.n + 1)) σ'
      | _ => false
  | false => false
/-- a call of a value -/
noncomputable def callV (ih : Ev) (d : Nat) (f : AV) (vs : List AV) (σ : St) (x k : KE) : Bool := match f with
  | .old a => match Nat.beq a G.take with
    | true => (match d with
      | 0 => false
      | _ + 1 => takeV vs σ k)
    | false => (match lkN G.cls a with
      | some cd => makeV ih d a cd vs σ x k
      | none => match (fnAt G.T a).isSome with
        | true => ih.C d a vs σ x k
        | false => false)
  | .bi b => callB G.isn b vs σ k
  | _ => false

/-- a name stored -/
noncomputable def storeName' (c : Cn) (x : Str) (v : AV) (ρ : Loc) (σ : St) (k : Loc → St → Bool) : Bool := match lk c.names x with
  | some .local => k (Mine.put ρ x (.val v)) σ
  | some .cell => (match lk ρ x with
    | some (.cell i) => (match σ.get i with
      | some (.cell _) => k ρ (σ.set i (.cell (some v)))
      | _ => false)
    | _ => false)
  | _ => false
noncomputable def tup2 : AV → St → Option (AV × AV)
  | .own i, σ => (match σ.get i with
    | some (.tup [a, b]) => some (a, b)
    | _ => none)
  | _, _ => none
/-- a target of a loop or a store: a name, or a tuple of two names -/
noncomputable def assignV (c : Cn) (t : Expr) (v : AV) (ρ : Loc) (σ : St) (k : Loc → St → Bool) : Bool := match t with
  | .Name x _ => storeName' c x v ρ σ k
  | .Tuple [.Name x _, .Name y _] _ _ => (match c.rz with
    | true => (match tup2 v σ with
      | some (a, b) => storeName' c x a ρ σ fun ρ σ => storeName' c y b ρ σ k
      | none => false)
    | false => false)
  | _ => false
/-- the locals that a comprehension's block sees: the cells it closes over -/
noncomputable def keepC (ρ : Loc) : List (Str × NameKind) → Option Loc
  | [] => some []
  | (x, k) :: r => match k with
    | .free => (match lk ρ x with
      | some (.cell i) => (match keepC ρ r with
        | some l => some ((x, .cell i) :: l)
        | none => none)
      | _ => none)
    | _ => keepC ρ r
noncomputable def nodupN : List (Str × NameKind) → Bool
  | [] => true
  | p :: r => match lk r p.1 with
    | some _ => false
    | none => nodupN r
noncomputable def noCells : List (Str × NameKind) → Bool
  | [] => true
  | p :: r => match p.2 with
    | .cell => false
    | _ => noCells r

noncomputable def drop (x : Str) : Loc → Loc
  | [] => []
  | p :: r => match seq p.1 x with
    | true => drop x r
    | false => p :: drop x r
/-- one clause, a class of the text's own, a name, a suite -/
noncomputable def handle (ih : Ev) (d : Nat) (c : Cn) (hs : List ExceptHandler) (v : AV) (ρ : Loc) (σ : St) (k : KS) : Bool := match hs with
  | [.ExceptHandler (some (.Name cn _)) (some n) (b :: bs) _] => evName G c cn ρ σ fun cv _ => (match cv, v with
    | .old C, .own i => (match σ.get i with
      | some (.trc D _) => match Nat.beq C D && Nat.ble 30 d with
        | true => (match lkN G.cls C with
          | some cd => match cd.exc with
            | true => (match lk c.names n with
              | some .local => ih.Ss d ⟨c.names, false⟩ (b :: bs) (Mine.put ρ n (.val v)) σ nxs fun fl ρ σ => k fl (drop n ρ) σ
              | _ => false)
            | false => false
          | none => false)
        | false => false
      | _ => false)
    | _, _ => false)
  | _ => false

section
variable (ih : Ev) (d : Nat) (c : Cn)
noncomputable def evBool (op : BoolOp) (es : List Expr) (p : Pos) (ρ : Loc) (σ : St) (x k : KE) : Bool := match es with
  | [] => false
  | e :: r => match r with
    | [] => ih.E d c e ρ σ x k
    | _ :: _ => ih.E d c e ρ σ x fun v σ => (match op, truth v with
      | .And, some true => ih.E d c (.BoolOp op r p) ρ σ x k
      | .And, some false => k v σ
      | .Or, some true => k v σ
      | .Or, some false => ih.E d c (.BoolOp op r p) ρ σ x k
      | _, none => false)
noncomputable def evCmp (l : Expr) (ops : List CmpOp) (rs : List Expr) (ρ : Loc) (σ : St) (x : KE) (k : KT') : Bool := match ops, rs with
  | [op], [r] => (match isSetE r with
    | false => ih.E d c l ρ σ x fun a σ => ih.E d c r ρ σ x fun b σ => (match cmpV op a b σ with
      | some q => k q σ
      | none => false)
    | true => false)
  | [op, op'], [r, r'] => (match isSetE r' with
    | false => ih.E d c l ρ σ x fun a σ => ih.E d c r ρ σ x fun b σ => (match cmpV op a b σ with
      | some true => ih.E d c r' ρ σ x fun b' σ => (match cmpV op' b b' σ with
        | some q => k q σ
        | none => false)
      | some false => k false σ
      | none => false)
    | true => false)
  | _, _ => false
noncomputable def evDict (ks : List (Option Expr)) (vs : List Expr) (ρ : Loc) (σ : St) (x k : KE) : Bool := match ks, vs with
  | [], [] => mk σ (.dict []) k
  | [some q], [v] => ih.E d c q ρ σ x fun a σ => ih.E d c v ρ σ x fun b σ => (match a with
    | .str s => mk σ (.dict [(s, b)]) k
    | .own i => (match σ.get i with
      | some (.tup [.int _, .str _]) => (match b with
        | .bool _ => mk σ .junk k
        | _ => false)
      | _ => false)
    | _ => false)
  | _, _ => false
noncomputable def evSub (o s : Expr) (ρ : Loc) (σ : St) (x k : KE) : Bool := match s with
  | .Slice lo up st _ => (match st with
    | some _ => false
    | none => (match lo, up with
      | some l, none => ih.E d c o ρ σ x fun v σ => ih.E d c l ρ σ x fun i σ => (match i with
        | .int n => match decide (0 ≤ n) && decide (n < 1000) with
          | true => sliceFrom σ v n.toNat k
          | false => false
        | _ => false)
      | none, some u => ih.E d c o ρ σ x fun v σ => ih.E d c u ρ σ x fun i σ => sliceTo σ v i k
      | _, _ => false))
  | _ => ih.E d c o ρ σ x fun v σ => ih.E d c s ρ σ x fun i σ => itemV σ v i k
noncomputable def evMeth (o : Expr) (a : Str) (as : List Expr) (ρ : Loc) (σ : St) (x k : KE) : Bool :=
  ih.E d c o ρ σ x fun ov σ => (match methOf ov σ a with
    | some mt => ih.Es d c as ρ σ x fun vs σ => callM mt ov vs σ k
    | none => (match ov with
      | .own i => (match σ.get i with
        | some (.inst C di) => (match findV G σ C di a with
          | some (.own fv) => ih.Es d c as ρ σ x fun vs σ => callV G ih d fv vs σ x k
          | some (.meth fa) => ih.Es d c as ρ σ x fun vs σ => ih.C d fa (ov :: vs) σ x k
          | none => false)
        | _ => false)
      | _ => false))
noncomputable def evCall (f : Expr) (as : List Expr) (kws : List Keyword) (cp : Pos) (ρ : Loc) (σ : St) (x k : KE) : Bool := match kws with
  | [] => (match c.rz && noStar as && Nat.blt as.length 20 with
    | true => (match f with
      | .Attribute o a ap => (match isCallE o || !Nat.beq ap.endLine cp.line with
        | false => evMeth G ih d c o a as ρ σ x k
        | true => false)
      | .Name y _ => evName G c y ρ σ fun fv σ => ih.Es d c as ρ σ x fun vs σ => callV G ih d fv vs σ x k
      | _ => false)
    | false => false)
  | _ :: _ => false
/-- a range of the built-in, its bound -/
noncomputable def evRange (it : Expr) (ρ : Loc) (σ : St) (x k : KE) : Bool := match it with
  | .Call (.Name rg _) [n] [] _ => (match isStar n with
    | false => evName G c rg ρ σ fun fv σ => (match fv with
      | .bi .range => ih.E d c n ρ σ x k
      | _ => false)
    | true => false)
  | _ => false
noncomputable def isRangeE : Expr → Bool
  | .Call (.Name _ _) [_] [] _ => true
  | _ => false
/-- the iterator over a value, laid -/
noncomputable def evIter (it : Expr) (ρ : Loc) (σ : St) (x : KE) (k : It → St → Bool) : Bool := match isSetE it with
  | true => false
  | false => match isRangeE it with
    | true => evRange G ih d c it ρ σ x fun nv σ => (match nv with
      | .int m => match decide (0 ≤ m) && decide (m < 1000) with
        | true => k (.rit 0 m.toNat) σ
        | false => false
      | _ => false)
    | false => ih.E d c it ρ σ x fun v σ => (match v with
      | .own i => (match σ.get i with
        | some (.list _) => k (.lit i 0) σ
        | _ => false)
      | .str s => k (.sit s 0) σ
      | _ => false)
/-- a comprehension makes its list, its frame (which is not kept), runs -/
noncomputable def evComp (elt : Expr) (gens : List Comprehension) (sc : Scope) (ρ : Loc) (σ : St) (x k : KE) : Bool := match gens with
  | [⟨.Name y _, it, ifs, 0⟩] => (match lk sc.names y with
    | some .local => (match c.rz && isFun sc.kind && nodupN sc.names && noCells sc.names && (lk sc.names nDebug).isNone with
      | true => (match keepC ρ sc.names with
        | some ρ' => evIter G ih d c it ρ σ x fun iv σ => mk σ (.list []) fun lv σ => (match lv with
          | .own l => ih.P d ⟨sc.names, c.rz⟩ elt y ifs iv l ρ' σ k
          | _ => false)
        | none => false)
      | false => false)
    | _ => false)
  | _ => false

noncomputable def evE (e : Expr) (ρ : Loc) (σ : St) (x k : KE) : Bool := match e with
  | .Constant cst _ _ => (match cst with
    | .none => k .none σ
    | .bool b => k (.bool b) σ
    | .int i => k (.int i) σ
    | .str s => k (.str s) σ
    | _ => false)
  | .Name y _ => evName G c y ρ σ k
  | .Attribute o a _ => (match isCallE o with
    | false => ih.E d c o ρ σ x fun v σ => getV G σ v a k
    | true => false)
  | .BoolOp op es p => evBool ih d c op es p ρ σ x k
  | .UnaryOp op e _ => (match op with
    | .Not => ih.E d c e ρ σ x fun v σ => (match truth v with
      | some b => k (.bool (!b)) σ
      | none => false)
    | _ => false)
  | .IfExp t a b _ => ih.T d c t ρ σ x fun q σ => match q with
    | true => ih.E d c a ρ σ x k
    | false => ih.E d c b ρ σ x k
  | .BinOp l op r _ => ih.E d c l ρ σ x fun a σ => ih.E d c r ρ σ x fun b σ => binV op a b σ k
  | .Compare l ops rs _ => evCmp ih d c l ops rs ρ σ x fun q σ => k (.bool q) σ
  | .List es _ => (match noStar es with
    | true => ih.Es d c es ρ σ x fun vs σ => match Nat.blt vs.length 1000 with
      | true => mk σ (.list vs) k
      | false => false
    | false => false)
  | .Tuple es _ _ => (match noStar es with
    | true => ih.Es d c es ρ σ x fun vs σ => match Nat.blt vs.length 1000 with
      | true => mk σ (.tup vs) k
      | false => false
    | false => false)
  | .Dict ks vs _ => evDict ih d c ks vs ρ σ x k
  | .Subscript o s _ => evSub ih d c o s ρ σ x k
  | .Call f as kws cp => evCall G ih d c f as kws cp ρ σ x k
  | .ListComp elt gens sc _ => evComp G ih d c elt gens sc ρ σ x k
  | _ => false
noncomputable def evEs (es : List Expr) (ρ : Loc) (σ : St) (x : KE) (k : KEs) : Bool := match es with
  | [] => k [] σ
  | e :: r => ih.E d c e ρ σ x fun v σ => ih.Es d c r ρ σ x fun vs σ => k (v :: vs) σ
noncomputable def evTb (op : BoolOp) (es : List Expr) (p : Pos) (ρ : Loc) (σ : St) (x : KE) (k : KT') : Bool := match es with
  | [] => (match op with
    | .And => k true σ
    | .Or => k false σ)
  | e :: r => ih.T d c e ρ σ x fun b σ => (match op, b with
    | .And, true => ih.T d c (.BoolOp .And r p) ρ σ x k
    | .And, false => k false σ
    | .Or, true => k true σ
    | .Or, false => ih.T d c (.BoolOp .Or r p) ρ σ x k)
noncomputable def evTd (e : Expr) (ρ : Loc) (σ : St) (x : KE) (k : KT') : Bool := ih.E d c e ρ σ x fun v σ => (match truth v with
    | some b => k b σ
    | none => false)
noncomputable def evT (e : Expr) (ρ : Loc) (σ : St) (x : KE) (k : KT') : Bool := match e with
  | .UnaryOp op e' p => (match op with
    | .Not => ih.T d c e' ρ σ x fun b σ => k (!b) σ
    | _ => false)
  | .BoolOp op es p => evTb ih d c op es p ρ σ x k
  | .Compare l ops rs _ => evCmp ih d c l ops rs ρ σ x k
  | .Name y p => evTd ih d c (.Name y p) ρ σ x k
  | .Attribute o a p => evTd ih d c (.Attribute o a p) ρ σ x k
  | .Call f as kws p => evTd ih d c (.Call f as kws p) ρ σ x k
  | .Constant q k' p => evTd ih d c (.Constant q k' p) ρ σ x k
  | _ => false
noncomputable def evAssign (t : Expr) (v : Expr) (ρ : Loc) (σ : St) (x : KX) (k : KS) : Bool := match t with
  | .Name y _ => (match isComp v with
    | false => ih.E d c v ρ σ (fun v σ => x v ρ σ) fun a σ => storeName' c y a ρ σ (k .next)
    | true => (match lk c.names y with
      | some .local => ih.E d c v ρ σ nx fun a σ => storeName' c y a ρ σ (k .next)
      | _ => false))
  | .Attribute o a _ => (match isComp v with
    | false => ih.E d c v ρ σ (fun v σ => x v ρ σ) fun w σ => ih.E d c o ρ σ (fun v σ => x v ρ σ) fun ov σ => setV G σ ov a w (k .next ρ)
    | true => false)
  | .Subscript o i _ => (match isComp v with
    | false => (match i with
      | .Slice _ _ _ _ => false
      | _ => ih.E d c v ρ σ (fun v σ => x v ρ σ) fun w σ => ih.E d c o ρ σ (fun v σ => x v ρ σ) fun ov σ => ih.E d c i ρ σ (fun v σ => x v ρ σ) fun iv σ => storeV σ ov iv w (k .next ρ))
    | true => false)
  | .Tuple ts kk p => (match v with
    | .Call f as kws cp => ih.E d c (.Call f as kws cp) ρ σ (fun v σ => x v ρ σ) fun w σ => assignV c (.Tuple ts kk p) w ρ σ (k .next)
    | .Name y yp => ih.E d c (.Name y yp) ρ σ (fun v σ => x v ρ σ) fun w σ => assignV c (.Tuple ts kk p) w ρ σ (k .next)
    | .Subscript o i q => ih.E d c (.Subscript o i q) ρ σ (fun v σ => x v ρ σ) fun w σ => assignV c (.Tuple ts kk p) w ρ σ (k .next)
    | _ => false)
  | _ => false
noncomputable def evAug (t : Expr) (op : Operator) (v : Expr) (ρ : Loc) (σ : St) (x : KX) (k : KS) : Bool := match t with
  | .Attribute o a _ => (match op with
    | .Add => ih.E d c o ρ σ (fun v σ => x v ρ σ) fun ov σ => getV G σ ov a fun w σ => ih.E d c v ρ σ (fun v σ => x v ρ σ) fun u σ => (match w, u with
      | .int m, .int n => setV G σ ov a (.int (m + n)) (k .next ρ)
      | _, _ => false)
    | _ => false)
  | .Name y _ => (match op with
    | .Add => (match lk ρ y with
      | some _ => evName G c y ρ σ fun w σ => ih.E d c v ρ σ (fun v σ => x v ρ σ) fun u σ => (match w, u with
        | .int m, .int n => storeName' c y (.int (m + n)) ρ σ (k .next)
        | _, _ => false)
      | none => false)
    | _ => false)
  | _ => false
noncomputable def evTry (b : List Stmt) (hs : List ExceptHandler) (orelse fin : List Stmt) (ρ : Loc) (σ : St) (x : KX) (k : KS) : Bool := match orelse with
  | [] => (match fin with
    | [] => (match hs with
      | [] => false
      | _ :: _ => ih.Ss d c b ρ σ (fun v ρ' σ => handle G ih d c hs v ρ' σ k) k)
    | f :: fs => ih.Ss d c b ρ σ nxs fun fl ρ σ => ih.Ss d c (f :: fs) ρ σ nxs fun fl' ρ σ => (match fl' with
      | .next => k fl ρ σ
      | _ => false))
  | _ :: _ => false
noncomputable def evRaise (e : Option Expr) (cause : Option Expr) (ρ : Loc) (σ : St) (x : KX) : Bool := match e, cause with
  | some e, none => ih.E d c e ρ σ (fun v σ => x v ρ σ) fun v σ => (match v with
    | .own i => (match σ.get i with
      | some (.exc C di) => (match lkN G.cls C with
        | some cd => match c.rz && cd.exc with
          | true => x v ρ (σ.set i (.trc C di))
          | false => false
        | none => false)
      | _ => false)
    | _ => false)
  | _, _ => false
noncomputable def evS (st : Stmt) (ρ : Loc) (σ : St) (x : KX) (k : KS) : Bool := match st with
  | .Expr e _ => (match isComp e with
    | false => ih.E d c e ρ σ (fun v σ => x v ρ σ) fun _ σ => k .next ρ σ
    | true => false)
  | .Pass _ => k .next ρ σ
  | .Return v _ => (match v with
    | some e => ih.E d c e ρ σ (fun v σ => x v ρ σ) fun v σ => k (.ret v) ρ σ
    | none => k (.ret .none) ρ σ)
  | .Assign ts v _ => (match ts with
    | [t] => evAssign G ih d c t v ρ σ x k
    | _ => false)
  | .AugAssign t op v _ => evAug G ih d c t op v ρ σ x k
  | .If t a b _ => ih.T d c t ρ σ (fun v σ => x v ρ σ) fun q σ => match q with
    | true => ih.Ss d c a ρ σ x k
    | false => ih.Ss d c b ρ σ x k
  | .For t it b orelse _ => (match orelse with
    | [] => (match c.rz with
      | true => evIter G ih d c it ρ σ (fun v σ => x v ρ σ) fun iv σ => ih.L d c t b iv ρ σ k
      | false => false)
    | _ :: _ => false)
  | .While t b orelse _ => (match orelse with
    | [] => ih.W d c t b ρ σ k
    | _ :: _ => false)
  | .Try b hs orelse fin _ => evTry G ih d c b hs orelse fin ρ σ x k
  | .Raise e cause _ => evRaise G ih d c e cause ρ σ x
  | _ => false
noncomputable def evSs (sts : List Stmt) (ρ : Loc) (σ : St) (x : KX) (k : KS) : Bool := match sts with
  | [] => k .next ρ σ
  | st :: r => ih.S d c st ρ σ x fun fl ρ σ => (match fl with
    | .next => ih.Ss d c r ρ σ x k
    | fl => k fl ρ σ)
noncomputable def evC (f : Nat) (vs : List AV) (σ : St) (x k : KE) : Bool := match d with
  | 0 => false
  | d + 1 => (match fnAt G.T f with
    | some fd => (match fill fd.pars fd.dfl vs with
      | some ws => (match Nat.blt σ.n 3900 with
        | true => (match bindCells (cellNames fd.names []) (fd.pars.zip ws) (bindLoc fd.names (fd.pars.zip ws)) σ with
          | (ρ, σ) => ih.Ss d ⟨fd.names, true⟩ fd.body ρ σ (fun v _ σ => x v σ) fun fl _ σ => (match fl with
            | .ret v => k v σ
            | .next => k .none σ
            | _ => false))
        | false => false)
      | none => false)
    | none => false)
/-- what the iterator gives next, itself moved -/
noncomputable def nextV (i : It) (σ : St) (item : AV → It → Bool) (done : Bool) : Bool := match i with
  | .lit l j => (match σ.get l with
    | some (.list xs) => (match xs[j]? with
      | some v => item v (.lit l (j + 1))
      | none => done)
    | _ => false)
  | .rit a n => (match n with
    | 0 => done
    | n + 1 => item (.int (Int.ofNat a)) (.rit (a + 1) n))
  | .sit s j => (match s.cps.toList[j]? with
    | some ch => item (.str ⟨#[ch]⟩) (.sit s (j + 1))
    | none => done)
noncomputable def evL (t : Expr) (b : List Stmt) (i : It) (ρ : Loc) (σ : St) (k : KS) : Bool :=
  nextV i σ (fun v i => assignV c t v ρ σ fun ρ σ => ih.Ss d c b ρ σ nxs fun fl ρ σ => (match fl with
    | .ret v => k (.ret v) ρ σ
    | .brk => k .next ρ σ
    | _ => ih.L d c t b i ρ σ k)) (k .next ρ σ)
noncomputable def evW (t : Expr) (b : List Stmt) (ρ : Loc) (σ : St) (k : KS) : Bool := ih.T d c t ρ σ nx fun q σ => match q with
  | true => ih.Ss d c b ρ σ nxs fun fl ρ σ => (match fl with
    | .ret v => k (.ret v) ρ σ
    | .brk => k .next ρ σ
    | _ => ih.W d c t b ρ σ k)
  | false => k .next ρ σ
noncomputable def appendV (l : Nat) (w : AV) (σ : St) (k : St → Bool) : Bool := match σ.get l with
  | some (.list ys) => match Nat.blt ys.length 900 with
    | true => k (σ.set l (.list (ys ++ [w])))
    | false => false
  | _ => false
noncomputable def evP (elt : Expr) (y : Str) (ifs : List Expr) (i : It) (l : Nat) (ρ : Loc) (σ : St) (k : KE) : Bool :=
  nextV i σ (fun v i => match ifs with
    | [] => ih.E d c elt ((y, .val v) :: ρ) σ nx fun w σ => appendV l w σ fun σ => ih.P d c elt y ifs i l ρ σ k
    | [t] => ih.T d c t ((y, .val v) :: ρ) σ nx fun q σ => (match q with
      | true => ih.E d c elt ((y, .val v) :: ρ) σ nx fun w σ => appendV l w σ fun σ => ih.P d c elt y ifs i l ρ σ k
      | false => ih.P d c elt y ifs i l ρ σ k)
    | _ => false) (k (.own l) σ)
end
noncomputable def step (ih : Ev) : Ev where
  E d c e ρ σ x k := evE G ih d c e ρ σ x k
  Es d c es ρ σ x k := evEs ih d c es ρ σ x k
  T d c e ρ σ x k := evT ih d c e ρ σ x k
  S d c st ρ σ x k := evS G ih d c st ρ σ x k
  Ss d c sts ρ σ x k := evSs ih d c sts ρ σ x k
  C d f vs σ x k := evC G ih d f vs σ x k
  L d c t b i ρ σ k := evL ih d c t b i ρ σ k
  W d c t b ρ σ k := evW ih d c t b ρ σ k
  P d c elt y ifs i l ρ σ k := evP ih d c elt y ifs i l ρ σ k
noncomputable def ev : Nat → Ev
  | 0 => ev0
  | n + 1 => step G (ev n)
end Mine
end

section
/-! the tables of the text: names, classes (printed by a program, AT.lean) -/
namespace Mine
open PySem PySem.W PySem.W.X
/-- the text's own names -/
noncomputable def globTab : List (Str × AV) := [(⟨#[95, 119, 97, 108, 108]⟩, .old 21),
  (⟨#[67, 111, 118, 101, 69, 114, 114, 111, 114]⟩, .old 31),
  (⟨#[82, 101, 102, 117, 115, 97, 108]⟩, .old 51),
  (⟨#[82, 69, 114, 114, 111, 114]⟩, .old 70),
  (⟨#[76, 105, 109, 105, 116, 82, 101, 97, 99, 104, 101, 100]⟩, .old 89),
  (⟨#[82, 101, 116, 117, 114, 110, 83, 105, 103, 110, 97, 108]⟩, .old 108),
  (⟨#[76, 111, 111, 112, 83, 105, 103, 110, 97, 108]⟩, .old 127),
  (⟨#[78, 117, 108, 108]⟩, .old 146),
  (⟨#[77, 105, 115, 115, 105, 110, 103]⟩, .old 167),
  (⟨#[86, 101, 99, 116, 111, 114]⟩, .old 196),
  (⟨#[83, 121, 109, 98, 111, 108]⟩, .old 217),
  (⟨#[67, 97, 108, 108]⟩, .old 239),
  (⟨#[67, 108, 111, 115, 117, 114, 101]⟩, .old 261),
  (⟨#[66, 117, 105, 108, 116, 105, 110]⟩, .old 282),
  (⟨#[69, 110, 118, 105, 114, 111, 110, 109, 101, 110, 116]⟩, .old 304),
  (⟨#[80, 114, 111, 109, 105, 115, 101]⟩, .old 325),
  (⟨#[68, 111, 116, 115]⟩, .old 346),
  (⟨#[110, 117, 108, 108]⟩, .old 357),
  (⟨#[109, 105, 115, 115, 105, 110, 103]⟩, .old 364),
  (⟨#[99, 104, 97, 114, 97, 99, 116, 101, 114]⟩, .old 371),
  (⟨#[110, 97, 109, 101, 100]⟩, .old 378),
  (⟨#[112, 97, 105, 114, 108, 105, 115, 116, 95, 111, 102]⟩, .old 383),
  (⟨#[119, 104, 111, 108, 101]⟩, .old 390),
  (⟨#[102, 108, 97, 103]⟩, .old 397),
  (⟨#[116, 101, 120, 116]⟩, .old 404),
  (⟨#[115, 121, 109, 98, 111, 108]⟩, .old 411),
  (⟨#[99, 97, 108, 108, 95, 111, 102]⟩, .old 418),
  (⟨#[108, 101, 110, 103, 116, 104]⟩, .old 425),
  (⟨#[105, 115, 95, 102, 117, 110, 99, 116, 105, 111, 110]⟩, .old 432),
  (⟨#[115, 104, 97, 114, 101]⟩, .old 439),
  (⟨#[108, 111, 111, 107, 117, 112, 95, 104, 101, 114, 101]⟩, .old 446),
  (⟨#[108, 111, 111, 107, 117, 112]⟩, .old 453),
  (⟨#[77, 97, 116, 99, 104, 105, 110, 103]⟩, .old 510),
  (⟨#[100, 111, 117, 98, 108, 101, 100, 95, 116, 101, 120, 116]⟩, .old 521),
  (⟨#[97, 114, 103, 117, 109, 101, 110, 116, 95, 116, 101, 120, 116]⟩, .old 528),
  (⟨#[117, 110, 117, 115, 101, 100, 95, 116, 101, 120, 116]⟩, .old 533),
  (⟨#[109, 97, 116, 99, 104, 95, 110, 97, 109, 101, 115]⟩, .old 539),
  (⟨#[100, 111, 110, 101, 95, 112, 114, 111, 109, 105, 115, 101]⟩, .old 546),
  (⟨#[98, 111, 117, 110, 100, 95, 97, 114, 103, 117, 109, 101, 110, 116]⟩, .old 553),
  (⟨#[100, 111, 116, 115, 95, 97, 114, 103, 117, 109, 101, 110, 116]⟩, .old 560),
  (⟨#[100, 101, 102, 97, 117, 108, 116, 95, 98, 105, 110, 100, 105, 110, 103]⟩, .old 567),
  (⟨#[98, 105, 110, 100, 95, 102, 111, 114, 109, 97, 108, 115]⟩, .old 573),
  (⟨#[105, 115, 95, 100, 101, 102, 97, 117, 108, 116]⟩, .old 580),
  (⟨#[109, 105, 115, 115, 105, 110, 103, 95, 97, 114, 103, 117, 109, 101, 110, 116]⟩, .old 587),
  (⟨#[100, 111, 116, 115, 95, 111, 102]⟩, .old 594),
  (⟨#[105, 115, 95, 100, 111, 116, 115, 95, 112, 108, 97, 99, 101]⟩, .old 601),
  (⟨#[100, 111, 116, 115, 95, 112, 108, 97, 99, 101]⟩, .old 608),
  (⟨#[105, 115, 95, 101, 109, 112, 116, 121, 95, 102, 111, 114, 109, 97, 108]⟩, .old 615),
  (⟨#[105, 115, 95, 101, 109, 112, 116, 121, 95, 110, 97, 109, 101]⟩, .old 622),
  (⟨#[70, 114, 97, 109, 101]⟩, .old 639),
  (⟨#[69, 118, 97, 108, 117, 97, 116, 111, 114]⟩, .old 849),
  (⟨#[104, 97, 110, 100, 115, 95, 111, 110]⟩, .old 860),
  (⟨#[103, 101, 116, 95, 97, 116, 116, 114]⟩, .old 867),
  (⟨#[110, 97, 109, 101, 115, 95, 111, 102]⟩, .old 872),
  (⟨#[100, 105, 109, 95, 111, 102]⟩, .old 879),
  (⟨#[100, 105, 109, 110, 97, 109, 101, 115, 95, 111, 102]⟩, .old 884),
  (⟨#[110, 101, 101, 100]⟩, .old 891),
  (⟨#[102, 111, 114, 109, 97, 108, 115, 95, 111, 102]⟩, .old 896),
  (⟨#[115, 95, 102, 117, 110, 99, 116, 105, 111, 110]⟩, .old 903),
  (⟨#[115, 95, 109, 105, 115, 115, 105, 110, 103]⟩, .old 910),
  (⟨#[95, 108, 97, 119, 95, 116, 97, 107, 101]⟩, .old 917),
  (⟨#[95, 108, 97, 119, 95, 111, 100, 100]⟩, .old 924),
  (⟨#[95, 108, 97, 119, 95, 112, 108, 97, 105, 110]⟩, .old 931),
  (⟨#[95, 108, 97, 119, 95, 108, 111, 117, 100]⟩, .old 938),
  (⟨#[95, 108, 97, 119, 95, 116, 97, 107, 101, 110]⟩, .old 945),
  (⟨#[95, 108, 97, 119, 95, 113, 117, 105, 101, 116]⟩, .old 952),
  (⟨#[108, 97, 119]⟩, .old 957),
  (⟨#[108, 101, 110]⟩, .bi .len),
  (⟨#[114, 97, 110, 103, 101]⟩, .bi .range),
  (⟨#[105, 115, 105, 110, 115, 116, 97, 110, 99, 101]⟩, .bi .isi),
  (⟨#[115, 116, 114]⟩, .bi .str),
  (⟨#[105, 110, 116]⟩, .bi .int),
  (⟨#[108, 105, 115, 116]⟩, .bi .list)]
/-- the text's own classes: is it an exception, its __init__, its defs, its objects' own names -/
noncomputable def clsTab : List (Nat × ClD) := [(51, ⟨true, 48, [(⟨#[95, 95, 105, 110, 105, 116, 95, 95]⟩, 48)],
    [⟨#[109, 101, 115, 115, 97, 103, 101]⟩]⟩),
  (70, ⟨true, 67, [(⟨#[95, 95, 105, 110, 105, 116, 95, 95]⟩, 67)],
    [⟨#[109, 101, 115, 115, 97, 103, 101]⟩, ⟨#[99, 97, 108, 108]⟩, ⟨#[99, 111, 110, 100, 105, 116, 105, 111, 110]⟩]⟩),
  (89, ⟨true, 86, [(⟨#[95, 95, 105, 110, 105, 116, 95, 95]⟩, 86)],
    [⟨#[119, 104, 97, 116]⟩]⟩),
  (108, ⟨true, 105, [(⟨#[95, 95, 105, 110, 105, 116, 95, 95]⟩, 105)],
    [⟨#[110, 117, 109, 98, 101, 114]⟩, ⟨#[118, 97, 108, 117, 101]⟩]⟩),
  (127, ⟨true, 124, [(⟨#[95, 95, 105, 110, 105, 116, 95, 95]⟩, 124)],
    [⟨#[110, 117, 109, 98, 101, 114]⟩, ⟨#[97, 103, 97, 105, 110]⟩]⟩),
  (146, ⟨false, 143, [(⟨#[95, 95, 105, 110, 105, 116, 95, 95]⟩, 143)],
    [⟨#[107, 105, 110, 100]⟩, ⟨#[97, 116, 116, 114, 115]⟩]⟩),
  (167, ⟨false, 164, [(⟨#[95, 95, 105, 110, 105, 116, 95, 95]⟩, 164)],
    [⟨#[107, 105, 110, 100]⟩, ⟨#[97, 116, 116, 114, 115]⟩]⟩),
  (196, ⟨false, 186, [(⟨#[95, 95, 105, 110, 105, 116, 95, 95]⟩, 186), (⟨#[99, 111, 112, 121]⟩, 193)],
    [⟨#[107, 105, 110, 100]⟩, ⟨#[105, 116, 101, 109, 115]⟩, ⟨#[97, 116, 116, 114, 115]⟩, ⟨#[115, 104, 97, 114, 101, 100]⟩, ⟨#[108, 111, 111, 115, 101]⟩]⟩),
  (217, ⟨false, 214, [(⟨#[95, 95, 105, 110, 105, 116, 95, 95]⟩, 214)],
    [⟨#[107, 105, 110, 100]⟩, ⟨#[110, 97, 109, 101]⟩, ⟨#[97, 116, 116, 114, 115]⟩]⟩),
  (239, ⟨false, 236, [(⟨#[95, 95, 105, 110, 105, 116, 95, 95]⟩, 236)],
    [⟨#[107, 105, 110, 100]⟩, ⟨#[105, 116, 101, 109, 115]⟩, ⟨#[116, 97, 103, 115]⟩, ⟨#[97, 116, 116, 114, 115]⟩, ⟨#[99, 111, 100, 101]⟩]⟩),
  (261, ⟨false, 258, [(⟨#[95, 95, 105, 110, 105, 116, 95, 95]⟩, 258)],
    [⟨#[107, 105, 110, 100]⟩, ⟨#[102, 111, 114, 109, 97, 108, 115]⟩, ⟨#[98, 111, 100, 121]⟩, ⟨#[101, 110, 118]⟩, ⟨#[97, 116, 116, 114, 115]⟩]⟩),
  (282, ⟨false, 279, [(⟨#[95, 95, 105, 110, 105, 116, 95, 95]⟩, 279)],
    [⟨#[107, 105, 110, 100]⟩, ⟨#[110, 97, 109, 101]⟩, ⟨#[115, 112, 101, 99, 105, 97, 108]⟩, ⟨#[102, 110]⟩, ⟨#[103, 114, 111, 117, 112]⟩, ⟨#[97, 116, 116, 114, 115]⟩]⟩),
  (304, ⟨false, 301, [(⟨#[95, 95, 105, 110, 105, 116, 95, 95]⟩, 301)],
    [⟨#[107, 105, 110, 100]⟩, ⟨#[110, 117, 109, 98, 101, 114]⟩, ⟨#[112, 97, 114, 101, 110, 116]⟩, ⟨#[97, 116, 116, 114, 115]⟩, ⟨#[102, 114, 97, 109, 101]⟩, ⟨#[108, 111, 99, 107, 101, 100]⟩, ⟨#[108, 111, 99, 107, 115]⟩]⟩),
  (325, ⟨false, 322, [(⟨#[95, 95, 105, 110, 105, 116, 95, 95]⟩, 322)],
    [⟨#[107, 105, 110, 100]⟩, ⟨#[101, 120, 112, 114]⟩, ⟨#[101, 110, 118]⟩, ⟨#[118, 97, 108, 117, 101]⟩, ⟨#[115, 116, 97, 116, 101]⟩, ⟨#[100, 101, 102, 97, 117, 108, 116]⟩, ⟨#[97, 116, 116, 114, 115]⟩]⟩),
  (346, ⟨false, 343, [(⟨#[95, 95, 105, 110, 105, 116, 95, 95]⟩, 343)],
    [⟨#[107, 105, 110, 100]⟩, ⟨#[97, 114, 103, 115]⟩, ⟨#[97, 116, 116, 114, 115]⟩]⟩),
  (510, ⟨false, 467, [(⟨#[95, 95, 105, 110, 105, 116, 95, 95]⟩, 467), (⟨#[101, 120, 97, 99, 116]⟩, 474), (⟨#[112, 97, 114, 116, 105, 97, 108]⟩, 481), (⟨#[112, 97, 114, 116, 105, 97, 108, 95, 111, 102]⟩, 488), (⟨#[112, 111, 115, 105, 116, 105, 111, 110, 97, 108]⟩, 495), (⟨#[105, 115, 95, 102, 114, 101, 101]⟩, 502), (⟨#[114, 101, 115, 116]⟩, 507)],
    [⟨#[102, 111, 114, 109, 97, 108, 115]⟩, ⟨#[116, 97, 103, 115]⟩, ⟨#[117, 115, 101, 100]⟩, ⟨#[112, 108, 97, 99, 101, 115]⟩]⟩),
  (639, ⟨false, 636, [(⟨#[95, 95, 105, 110, 105, 116, 95, 95]⟩, 636)],
    [⟨#[99, 97, 108, 108]⟩, ⟨#[102, 117, 110, 99, 116, 105, 111, 110]⟩, ⟨#[101, 110, 118]⟩, ⟨#[99, 97, 108, 108, 101, 114]⟩, ⟨#[97, 114, 103, 115]⟩, ⟨#[111, 110, 95, 101, 120, 105, 116]⟩, ⟨#[100, 105, 115, 112, 97, 116, 99, 104]⟩]⟩),
  (849, ⟨false, 658, [(⟨#[95, 95, 105, 110, 105, 116, 95, 95]⟩, 658), (⟨#[110, 101, 119, 95, 101, 110, 118]⟩, 665), (⟨#[100, 101, 102, 105, 110, 101]⟩, 673), (⟨#[116, 105, 99, 107]⟩, 680), (⟨#[115, 105, 103, 110, 97, 108, 95, 101, 114, 114, 111, 114]⟩, 687), (⟨#[119, 97, 114, 110, 95, 97, 108, 108]⟩, 695), (⟨#[114, 117, 110, 110, 105, 110, 103, 95, 99, 97, 108, 108]⟩, 702), (⟨#[101, 118, 97, 108]⟩, 709), (⟨#[118, 97, 114, 105, 97, 98, 108, 101]⟩, 716), (⟨#[100, 111, 116, 115, 95, 118, 97, 108, 117, 101]⟩, 723), (⟨#[102, 111, 114, 99, 101]⟩, 730), (⟨#[102, 105, 110, 100, 95, 102, 117, 110, 99, 116, 105, 111, 110]⟩, 738), (⟨#[102, 117, 110, 99, 116, 105, 111, 110, 95, 111, 102]⟩, 745), (⟨#[101, 118, 97, 108, 95, 99, 97, 108, 108]⟩, 752), (⟨#[112, 108, 97, 105, 110, 95, 99, 97, 108, 108]⟩, 759), (⟨#[115, 112, 114, 101, 97, 100, 95, 100, 111, 116, 115]⟩, 766), (⟨#[112, 114, 111, 109, 105, 115, 101, 95, 97, 114, 103, 115]⟩, 773), (⟨#[101, 97, 103, 101, 114, 95, 97, 114, 103, 115]⟩, 781), (⟨#[101, 109, 112, 116, 121, 95, 97, 114, 103]⟩, 788), (⟨#[99, 97, 108, 108, 95, 115, 112, 101, 99, 105, 97, 108]⟩, 795), (⟨#[99, 97, 108, 108, 95, 98, 117, 105, 108, 116, 105, 110]⟩, 802), (⟨#[97, 112, 112, 108, 121, 95, 99, 108, 111, 115, 117, 114, 101]⟩, 810), (⟨#[108, 101, 97, 118, 101]⟩, 817), (⟨#[114, 117, 110, 95, 101, 120, 105, 116, 115]⟩, 824), (⟨#[115, 104, 111, 119, 101, 114]⟩, 831), (⟨#[99, 97, 108, 108, 95, 118, 97, 108, 117, 101]⟩, 839), (⟨#[114, 117, 110]⟩, 846)],
    [⟨#[108, 105, 109, 105, 116]⟩, ⟨#[109, 111, 115, 116, 95, 102, 114, 97, 109, 101, 115]⟩, ⟨#[115, 116, 101, 112, 115]⟩, ⟨#[110, 101, 120, 116, 95, 110, 117, 109, 98, 101, 114]⟩, ⟨#[98, 97, 115, 101]⟩, ⟨#[103, 108, 111, 98, 97, 108, 115]⟩, ⟨#[102, 114, 97, 109, 101, 115]⟩, ⟨#[111, 117, 116]⟩, ⟨#[119, 97, 114, 110, 105, 110, 103, 115]⟩, ⟨#[104, 97, 110, 100, 108, 101, 114, 115]⟩, ⟨#[114, 101, 115, 116, 97, 114, 116, 115]⟩, ⟨#[116, 97, 114, 103, 101, 116, 115]⟩, ⟨#[118, 105, 115, 105, 98, 108, 101]⟩, ⟨#[99, 117, 114, 114, 101, 110, 116]⟩, ⟨#[100, 105, 115, 112, 97, 116, 99, 104, 101, 114]⟩, ⟨#[115, 105, 103, 110, 97, 108, 108, 101, 114]⟩, ⟨#[119, 97, 114, 110, 101, 114]⟩, ⟨#[100, 101, 112, 97, 114, 115, 101, 114]⟩, ⟨#[115, 52]⟩]⟩)]
noncomputable def takeAt : Nat := 917
noncomputable def isnTab : List (Nat × Nat) := [(146, 196), (167, 196), (217, 196), (239, 196), (261, 196), (282, 196), (304, 196), (325, 196), (346, 196), (510, 196), (639, 196), (849, 196)]
noncomputable def mkG (T : KT) : Sg := ⟨T, clsTab, takeAt, globTab, isnTab⟩
end Mine
end

section
/-! what the kernel is asked -/
set_option maxRecDepth 100000
namespace Mine
open PySem PySem.W PySem.W.X PySem.Calls PyProof.Rows PySem.Spec

/-- the checks for «is no object» -/
noncomputable def isnB (K : Frag) (D C : Addr) : Bool := kin_not K D C && plainGet K D "__class__" && hasDictIn K D && findIn K (.ref D) "__class__" == some (some (.builtin "object.__class__")) &&
  specialIn K (.builtin "object.__class__") "__get__" == some (some (.builtin "getset_descriptor.__get__")) && takesIn K (.builtin "object.__class__") == some true && mroIn K D (.type "object") == some true
noncomputable def excTail : List Value → Bool
  | [.type a, .type b, .type c] => a == "Exception" && b == "BaseException" && c == "object"
  | .ref _ :: r => excTail r
  | _ => false
noncomputable def excOver (K : Frag) (C : Addr) : Bool := (clsIn K C).any fun cd => excTail cd.mro
noncomputable def excBm : List Value := [.type "Exception", .type "BaseException", .type "object"]
noncomputable def excNewIn (K : Frag) (C : Addr) : Bool := specialIn K (.ref C) "__call__" == some (some (.builtin "type.__call__")) && instIn K (.ref C) (.type "type") == some true && match K.lookup C with
  | some ⟨.type "type", _, .cls cd, sl⟩ => (match cd.mro, sl.toList with
    | .ref C' :: bm, [_, _, _, _, some (.builtin n), _] => C' == C && n == "Exception.__new__" && !cd.hasDel && tailIn K excBm bm
    | _, _ => false)
  | _ => false
noncomputable def nAbs : Str := ⟨#[97, 98, 115]⟩
noncomputable def nLen : Str := ⟨#[108, 101, 110]⟩
noncomputable def isLoc (names : List (Str × NameKind)) (x : Str) : Bool := match lk names x with
  | some .local => true
  | _ => false
noncomputable def isGlb (names : List (Str × NameKind)) (x : Str) : Bool := match lk names x with
  | some .globalImplicit => true
  | _ => false
/-- two names for the state's parts, a remainder of a quotient: the shape that the walk below takes -/
noncomputable def sE : Stmt → List Expr
  | .Assign ts v _ => v :: ts
  | .For t i _ _ _ => [t, i]
  | .Return (some e) _ => [e]
  | .If t _ _ _ => [t]
  | _ => []
noncomputable def sB : Stmt → List Stmt
  | .For _ _ b _ _ => b
  | .If _ b _ _ => b
  | _ => []
noncomputable def sP : Stmt → Pos
  | .Assign _ _ p => p
  | .For _ _ _ _ p => p
  | .Return _ p => p
  | .If _ _ _ p => p
  | _ => ⟨0, 0, 0, 0⟩
noncomputable def eE : Expr → List Expr
  | .Tuple es _ _ => es
  | .Subscript v s _ => [v, s]
  | .BinOp l _ r _ => [l, r]
  | .Compare l _ cs _ => l :: cs
  | .Call f as _ _ => f :: as
  | .List es _ => es
  | .Slice _ (some u) _ _ => [u]
  | _ => []
noncomputable def eP : Expr → Pos
  | .Tuple _ _ p => p
  | .Subscript _ _ p => p
  | .BinOp _ _ _ p => p
  | .Compare _ _ _ p => p
  | .Call _ _ _ p => p
  | .List _ p => p
  | .Slice _ _ _ p => p
  | .Name _ p => p
  | .Constant _ _ p => p
  | _ => ⟨0, 0, 0, 0⟩
noncomputable def eK : Expr → Nat
  | .Tuple _ k _ => k
  | .Constant _ k _ => k
  | _ => 0
noncomputable def eN : Expr → Str
  | .Name x _ => x
  | _ => ⟨#[]⟩
noncomputable def kid (l : List Expr) : List Nat → Expr
  | [] => .Tuple [] 0 ⟨0, 0, 0, 0⟩
  | [i] => l.getD i (.Tuple [] 0 ⟨0, 0, 0, 0⟩)
  | i :: is => kid (eE (l.getD i (.Tuple [] 0 ⟨0, 0, 0, 0⟩))) is
noncomputable def sAt (fd : FnD) (i : Nat) : Stmt := fd.body.getD i (.Pass ⟨0, 0, 0, 0⟩)
noncomputable def sE0 (fd : FnD) (i : Nat) (l : List Nat) : Expr := kid (sE (sAt fd i)) l
noncomputable def sIn (fd : FnD) (i : Nat) : Stmt := (sB (sAt fd i)).getD 0 (.Pass ⟨0, 0, 0, 0⟩)
/-- the draw's text has this shape -/
def DrawShape (fd : FnD) : Prop := ∃ (ps pm r a : Str) (names : List (Str × NameKind)) (k : Nat → Nat) (z : Nat → Pos),
  fd = ⟨[ps, pm], [], [.Assign [.Tuple [.Name r (z 1), .Name a (z 2)] (k 1) (z 3)] (.Name ps (z 4)) (z 5),
      .Assign [.Subscript (.Name ps (z 6)) (.Constant (.int 1) (k 2) (z 7)) (z 8)] (.BinOp (.Name a (z 9)) .Add (.Constant (.int 1) (k 3) (z 10)) (z 11)) (z 12),
      .If (.Compare (.Name r (z 13)) [.Eq] [.List [] (z 14)] (z 15)) [.Return (some (.Constant (.int 0) (k 4) (z 16))) (z 17)] [] (z 18),
      .Return (some (.BinOp (.BinOp (.Call (.Name nAbs (z 19)) [.Subscript (.Name r (z 20)) (.BinOp (.Name a (z 21)) .Mod (.Call (.Name nLen (z 22)) [.Name r (z 23)] [] (z 24)) (z 25)) (z 26)] [] (z 27)) .FloorDiv
        (.BinOp (.Constant (.int 7) (k 5) (z 28)) .Pow (.BinOp (.Name a (z 29)) .FloorDiv (.Call (.Name nLen (z 30)) [.Name r (z 31)] [] (z 32)) (z 33)) (z 34)) (z 35)) .Mod (.Name pm (z 36)) (z 37))) (z 38)], names⟩ ∧
    (!seq r a && !seq ps pm && !seq r ps && !seq r pm && !seq a ps && !seq a pm && isLoc names ps && isLoc names pm && isLoc names r && isLoc names a && isGlb names nAbs && isGlb names nLen && noCells names) = true
noncomputable def drawK (fd : FnD) (i : Nat) : Nat := [0, eK (sE0 fd 0 [1]), eK (sE0 fd 1 [1, 1]), eK (sE0 fd 1 [0, 1]), eK (kid (sE (sIn fd 2)) [0]), eK (sE0 fd 3 [0, 0, 1, 0])].getD i 0
noncomputable def drawZ (fd : FnD) (i : Nat) : Pos := [⟨0, 0, 0, 0⟩, eP (sE0 fd 0 [1, 0]), eP (sE0 fd 0 [1, 1]), eP (sE0 fd 0 [1]), eP (sE0 fd 0 [0]), sP (sAt fd 0),
  eP (sE0 fd 1 [1, 0]), eP (sE0 fd 1 [1, 1]), eP (sE0 fd 1 [1]), eP (sE0 fd 1 [0, 0]), eP (sE0 fd 1 [0, 1]), eP (sE0 fd 1 [0]), sP (sAt fd 1),
  eP (sE0 fd 2 [0, 0]), eP (sE0 fd 2 [0, 1]), eP (sE0 fd 2 [0]), eP (kid (sE (sIn fd 2)) [0]), sP (sIn fd 2), sP (sAt fd 2),
  eP (sE0 fd 3 [0, 0, 0, 0]), eP (sE0 fd 3 [0, 0, 0, 1, 0]), eP (sE0 fd 3 [0, 0, 0, 1, 1, 0]), eP (sE0 fd 3 [0, 0, 0, 1, 1, 1, 0]), eP (sE0 fd 3 [0, 0, 0, 1, 1, 1, 1]), eP (sE0 fd 3 [0, 0, 0, 1, 1, 1]), eP (sE0 fd 3 [0, 0, 0, 1, 1]), eP (sE0 fd 3 [0, 0, 0, 1]), eP (sE0 fd 3 [0, 0, 0]),
  eP (sE0 fd 3 [0, 0, 1, 0]), eP (sE0 fd 3 [0, 0, 1, 1, 0]), eP (sE0 fd 3 [0, 0, 1, 1, 1, 0]), eP (sE0 fd 3 [0, 0, 1, 1, 1, 1]), eP (sE0 fd 3 [0, 0, 1, 1, 1]), eP (sE0 fd 3 [0, 0, 1, 1]), eP (sE0 fd 3 [0, 0, 1]), eP (sE0 fd 3 [0, 0]), eP (sE0 fd 3 [0, 1]), eP (sE0 fd 3 [0]), sP (sAt fd 3)].getD i ⟨0, 0, 0, 0⟩
noncomputable def nInit : Str := ⟨#[95, 95, 105, 110, 105, 116, 95, 95]⟩
noncomputable def excB (K : Frag) (C : Addr) : Bool := findIn K (.ref C) "__getattribute__" == some (some (.builtin "BaseException.__getattribute__")) && findIn K (.ref C) "__getattr__" == some none && excOver K C && excNewIn K C
noncomputable def instB (K : Frag) (C : Addr) : Bool := plainGet K C nInit && plainOver K C && makesIn K C
noncomputable def clOkB (K : Frag) (C : Addr) (cd : ClD) : Bool :=
  (match cd.exc with | true => excB K C | false => instB K C) && hasDictIn K C && findIn K (.ref C) "__setattr__" == some (some (.builtin "object.__setattr__")) && keepIn K (.ref C) && findIn K (.ref C) "__init__" == some (some (.ref cd.init)) && isFn K (.ref cd.init) &&
  cd.free.all (fun x => findIn K (.ref C) x == some none) && cd.meths.all fun p => findIn K (.ref C) p.1 == some (some (.ref p.2)) && isFn K (.ref p.2) && keepIn K (.ref p.2)
noncomputable def isNm (x : Str) : Bool := x == ("__name__" : Str)
noncomputable def glOkB (K : Frag) (x : Str) (v : AV) : Bool := match v with
  | .old a => nsIn K mainGlobals x == some (some (.ref a))
  | .bi b => nsIn K mainGlobals x == some none && bootBuiltins x == some b.val && !isNm x
  | _ => false
noncomputable def tabsB (K : Frag) : Bool := clsTab.all (fun p => clOkB K p.1 p.2) && globTab.all (fun p => glOkB K p.1 p.2) && (K.lookup sysModules).isSome && keepIn K (.ref takeAt) && isnTab.all (fun p => isnB K p.1 p.2) &&
  nsIn K mainGlobals nAbs == some none && nsIn K mainGlobals nLen == some none
structure LawP where
  sc : Str
  st : Str
  gv : Str
  kd : Str
  it : Expr
  t1 : Stmt
  tb : List Stmt
  names : List (Str × NameKind)
noncomputable def σ0 : St := (St.mk .nil 0).push (.stt 0)
noncomputable def stOk (σ : St) (b : Nat) : Bool := match σ.get 0 with
  | some (.stt n) => Nat.ble n b
  | _ => false
noncomputable def ownB (ρ : Loc) (st : Str) : Bool := match lk ρ st with
  | some (.val (.own i)) => Nat.beq i 0
  | _ => false
noncomputable def kindB (ρ : Loc) (kd : Str) : Bool := match lk ρ kd with
  | some (.val (.int r)) => decide (0 ≤ r) && decide (r < 6)
  | _ => false
noncomputable def nmB (p : LawP) : Bool := isLoc p.names p.sc && isLoc p.names p.st && isLoc p.names p.gv && !seq p.st p.gv && !seq p.kd p.st
noncomputable def lawP (fd : FnD) : LawP := ⟨fd.pars.getD 0 ⟨#[]⟩, eN (sE0 fd 0 [1]), eN (sE0 fd 1 [0]), eN (kid (sE (sIn fd 1)) [1]), sE0 fd 1 [1], sIn fd 1, (sB (sAt fd 1)).drop 1, fd.names⟩
def LawShape (fd : FnD) (p : LawP) : Prop := ∃ (k : Nat → Nat) (z : Nat → Pos), fd = ⟨[p.sc], [], [.Assign [.Name p.st (z 0)] (.List [.Subscript (.Name p.sc (z 1)) (.Slice none (some (.Constant (.int 40) (k 0) (z 2))) none (z 3)) (z 4), .Constant (.int 0) (k 1) (z 5)] (z 6)) (z 7),
      .For (.Name p.gv (z 8)) p.it (p.t1 :: p.tb) [] (z 9), .Return (some (.Constant (.bool true) (k 2) (z 10))) (z 11)], p.names⟩
noncomputable def lawK (fd : FnD) (i : Nat) : Nat := [eK (sE0 fd 0 [0, 0, 1, 0]), eK (sE0 fd 0 [0, 1]), eK (sE0 fd 2 [0])].getD i 0
noncomputable def lawZ (fd : FnD) (i : Nat) : Pos := [eP (sE0 fd 0 [1]), eP (sE0 fd 0 [0, 0, 0]), eP (sE0 fd 0 [0, 0, 1, 0]), eP (sE0 fd 0 [0, 0, 1]), eP (sE0 fd 0 [0, 0]), eP (sE0 fd 0 [0, 1]), eP (sE0 fd 0 [0]), sP (sAt fd 0), eP (sE0 fd 1 [0]), sP (sAt fd 1), eP (sE0 fd 2 [0]), sP (sAt fd 2)].getD i ⟨0, 0, 0, 0⟩
noncomputable def okIt (G : Sg) (p : LawP) : Bool := evIter G (ev G 60) 30 ⟨p.names, true⟩ p.it [(p.st, .val (.own 0))] σ0 nx fun i σ => match i with
  | .rit a n => Nat.ble n 4 && stOk σ 1
  | _ => false
noncomputable def okT1 (G : Sg) (p : LawP) : Bool := (ev G 60).S 30 ⟨p.names, true⟩ p.t1 [(p.st, .val (.own 0))] σ0 nxs fun fl ρ σ => match fl with
  | .next => stOk σ 1 && ownB ρ p.st && kindB ρ p.kd
  | _ => false
noncomputable def okTurn (G : Sg) (p : LawP) (r : Nat) : Bool := (ev G 400).Ss 30 ⟨p.names, true⟩ p.tb [(p.kd, .val (.int (Int.ofNat r))), (p.st, .val (.own 0))] σ0 nxs fun fl ρ σ => match fl with
  | .next => stOk σ 3 && ownB ρ p.st
  | _ => false
noncomputable def lawAt : Nat := 957
noncomputable def nScript : Str := ⟨#[115, 99, 114, 105, 112, 116]⟩
noncomputable def nLaw : Str := ⟨#[108, 97, 119]⟩
noncomputable def fdOf (T : KT) (a : Nat) : FnD := match fnAt T a with
  | some fd => fd
  | none => ⟨[], [], [], []⟩
def LawAt (T : KT) : Prop := fnAt T lawAt = some (fdOf T lawAt) ∧ LawShape (fdOf T lawAt) (lawP (fdOf T lawAt))
noncomputable def lawAll (T : KT) : Bool := nmB (lawP (fdOf T lawAt)) && okIt (mkG T) (lawP (fdOf T lawAt)) && okT1 (mkG T) (lawP (fdOf T lawAt)) && seq (lawP (fdOf T lawAt)).sc nScript
noncomputable def lawTurn (T : KT) (r : Nat) : Bool := okTurn (mkG T) (lawP (fdOf T lawAt)) r
def TakeAll (T : KT) : Prop := fnAt T takeAt = some (fdOf T takeAt) ∧ DrawShape (fdOf T takeAt)
end Mine
end

section
/-! attributes of exceptions of the text's own -/
set_option maxRecDepth 100000
namespace Mine
open PySem PySem.W PySem.W.X PySem.Calls PyProof.Rows PySem.Spec

theorem excTail_cases : ∀ {l : List Value}, excTail l = true → l = [.type "Exception", .type "BaseException", .type "object"] ∨ ∃ c r, l = .ref c :: r ∧ excTail r = true
  | l, e => by
    unfold excTail at e
    split at e
    · rename_i a b c
      simp only [Bool.and_eq_true, beq_iff_eq] at e
      obtain ⟨⟨rfl, rfl⟩, rfl⟩ := e
      exact .inl rfl
    · rename_i c r; exact .inr ⟨c, r, rfl, e⟩
    · cases e
theorem exc_has : ∀ (l : List Value), excTail l = true → l.contains (.type "object") = true ∧ l.contains (.type "BaseException") = true
  | [], e => by cases e
  | v :: l, e => by
    rcases excTail_cases e with h | ⟨c, r, h, e'⟩
    · rw [h]; constructor <;> decide +kernel
    · cases h
      obtain ⟨h1, h2⟩ := exc_has l e'
      rw [List.contains_cons, List.contains_cons, h1, h2, Bool.or_true, Bool.or_true]; exact ⟨rfl, rfl⟩
theorem refuse_exc (self : Value) : ∀ (l : List Value), excTail l = true → refuseLoop self "__setattr__" l = pure ()
  | [], e => by cases e
  | v :: l, e => by
    rcases excTail_cases e with h | ⟨c, r, h, e'⟩
    · rw [h]; exact PySem.F.store_Exception.passes self
    · cases h
      rw [refuseLoop_ref]; exact refuse_exc self l e'

section
variable {prog : Program} {w : World} {A : Around} {E : Value → Shared → Prop} {s : Shared} {K : Frag} {x C L : Addr} {h₀ : Heap} {m : Str → Option Value} {ox : Obj} {l : List DictEntry} {n : Nat} {name : Str} {v : Value}

theorem get_exc {expr : Bool} {Q : Value → Shared → Prop} (F : Fr h₀ L s.heap m) (X₀ : K.In h₀) (I : InstAt s.heap x ox C (some (dictOf l n)))
    (hg : findIn K (.ref C) "__getattribute__" = some (some (.builtin "BaseException.__getattribute__"))) (hg2 : findIn K (.ref C) "__getattr__" = some none) (hx : excOver K C = true) (hh : hasDictIn K C = true) (ha : findIn K (.ref C) name = some none) (hl : getL name l = some (some v)) (hv : handedIn v = true)
    (h : Q v { s with toks := s.toks + 1 }) : wpAny (model prog w) A (getAttr (.ref x) name expr) Q E s := by
  have X := X₀.keeps F.keep
  obtain ⟨cd, hc, ho⟩ := any_some hx
  have ne : cd.mro.isEmpty = false := by cases q : cd.mro with | nil => rw [q] at ho; cases ho | cons _ _ => rfl
  obtain ⟨hh', g, d, t, os⟩ := s
  have sub : Looks (model prog w) hh' (isInstance (.ref x) (.type "BaseException")) true := I.type.andThen (looks_mroIn X (by unfold mroIn; rw [hc, Option.bind_some, if_neg (by rw [ne]; decide), (exc_has _ ho).2]))
  have L0 := I.type (M := model prog w)
  have L1 := looks_findIn (M := model prog w) X hg
  have L2 := looks_findIn (M := model prog w) X hg2
  have L3 := looks_find (M := model prog w) X I (findObj_own hh ha rfl hl)
  have hx0 : (expr && onTheHeap (Value.builtin "BaseException.__getattribute__")) = false := by cases expr <;> rfl
  have hx2 : (Value.builtin "BaseException.__getattribute__" == Value.builtin "object.__getattribute__") = false := by decide +kernel
  have hk : builtinKind "BaseException.__getattribute__" = some .slot := by decide +kernel
  have hsplit : splitId "BaseException.__getattribute__" = some ("BaseException", "__getattribute__") := by decide +kernel
  have FB := PySem.F.excAttr_ValueError
  unfold getAttr getAttrBy
  refine wpAny_bind (wpAny_mkText (wpAny_holding (wpAny_bind (L0.at (wpAny_bind (L1.at ?_))))))
  dsimp only
  rw [hx2, Bool.and_false, if_neg (by decide)]
  unfold getAttrByItsOwn hookBefore
  rw [if_pos (show onTheHeap (.ref C) = true from rfl)]
  refine wpAny_bind (L2.at (wpAny_bind (wpAny_attempt (wpAny_holding ?_))))
  unfold callGetattribute boundAndCalled
  rw [hx0, if_neg (by decide), FB.ga.bind (.ref x)]
  refine wpAny_bind (wpAny_pure (wpAny_call ?_))
  refine codeAny_call_builtin FB.ga.plain PySem.F.entry_bexc_ga ?_
  refine @check_slot (model prog w) _ _ ⟨hh', g, d, t + 1, os⟩ "BaseException.__getattribute__" "BaseException" "__getattribute__" (.ref x) [.str name t] [] _ hk hsplit sub (PySem.F.args_bexc_ga _ _) ?_
  unfold Builtin.«object.__getattribute__»
  refine wpAny_bind (wpAny_of_eq (a := (Value.ref x, [Value.str name t])) rfl ?_)
  dsimp only
  refine wpAny_bind (wpAny_of_eq (a := name) rfl ?_)
  refine wpAny_bind (L0.at (wpAny_bind (L3.at ?_)))
  refine wpAny_pure ?_
  show wpAny _ _ (handedOut v) _ _ _
  rw [handedOut_of hv]; exact wpAny_pure h

theorem exc_open {R : Result → Shared → Prop} {od : Option Obj} {tk : Tok} (X : K.In s.heap) (I : InstAt s.heap x ox C od) (hp : excOver K C = true) (ha : findIn K (.ref C) name = some none)
    (h : ∀ b, wpAny (model prog w) A.in1 (Builtin.ObjectAttr.storeInOwnDict (.ref x) (.ref C) (.str name tk) name v b)
      (fun fin s' => match fin with | .done f => R (.ok f) s' | .again c' => c'.quiet = true ∧ codeAny (model prog w) A c' R s') (fun e s' => R (.error e) s') s) :
    codeAny (model prog w) A (.call (.builtin "object.__setattr__") ⟨[.ref x, .str name tk, v], []⟩) R s := by
  have SF := PySem.F.store_object
  obtain ⟨cd, hc, ho⟩ := any_some hp
  have ne : cd.mro.isEmpty = false := by cases q : cd.mro with | nil => rw [q] at ho; cases ho | cons _ _ => rfl
  have sub : Looks (model prog w) s.heap (isInstance (.ref x) (.type "object")) true := I.type.andThen (looks_mroIn X (by unfold mroIn; rw [hc, Option.bind_some, if_neg (by rw [ne]; decide), (exc_has _ ho).1]))
  refine codeAny_call_builtin SF.slot.plain SF.entry (@check_slot (model prog w) _ _ s "object.__setattr__" "object" "__setattr__" (.ref x) [.str name tk, v] [] _ SF.kind SF.split sub (SF.args (.ref x) (.str name tk) v) ?_)
  have hm : Looks (model prog w) s.heap (mroOf (.ref C)) cd.mro := (looks_clsIn X hc).andThen .now
  rw [osa_eq, refuse_eq]
  refine wpAny_bind (wpAny_bind (I.type.here (wpAny_bind (hm.here ?_))))
  rw [refuse_exc _ _ ho]
  refine wpAny_pure (wpAny_bind (I.type.here (wpAny_bind ((looks_findIn X ha).here (wpAny_bind (wpAny_pure ?_))))))
  exact h _

theorem exc_dict {R : Result → Shared → Prop} {od od' : Obj} {dx : Addr} {tk : Tok} {pre post : List (Addr × Obj)} {es : List DictEntry} (F : Fr h₀ L s.heap m) (N : News h₀ L s.heap (pre ++ (dx, od) :: post)) (X : K.In s.heap)
    (I : InstAt s.heap x ox C (some od)) (hd : ox.dict = some dx) (hp : excOver K C = true) (ha : findIn K (.ref C) name = some none) (hh : (clsIn K C).any (·.hasDict) = true)
    (hl : (lookIn name od).isSome = true) (h1 : ∀ p ∈ pre, p.1 ≠ dx) (h2 : ∀ p ∈ post, p.1 ≠ dx)
    (e : Obj.putName name (PyData.keyHash w.params name) (.str name s.toks) v od = od') (e' : od'.data = .dict es.toArray n) (hz : es.length ≤ 1000)
    (h : ∀ h', Fr h₀ L h' m → News h₀ L h' (pre ++ (dx, od') :: post) → R (.ok (.ret .none)) { s with heap := h', toks := s.toks + 1 }) :
    codeAny (model prog w) A (.call (.builtin "object.__setattr__") ⟨[.ref x, .str name tk, v], []⟩) R s := by
  refine exc_open X I hp ha fun b => ?_
  obtain ⟨cd, hc, hd'⟩ := any_some hh
  obtain ⟨U1, U2⟩ := news_upd (f := Obj.putName name (PyData.keyHash w.params name) (.str name s.toks) v) F N h1 h2 e (by obtain ⟨_, _, dd, _⟩ := od'; cases e'; rfl)
  have D := (N (dx, od) (by simp)).1
  have D' := (U2 (dx, od') (by simp)).1
  obtain ⟨hx, hcl, hn, -⟩ := I
  obtain ⟨oc, odi, oda, osl⟩ := ox
  dsimp only at hcl hd
  subst hcl hd
  refine wpAny_bind (wpAny_pure (wpAny_bind (wpAny_bind (wpAny_loadPart hx (wpAny_bind ((looks_clsIn X hc).here ?_))))))
  rw [hd']
  refine wpAny_pure (a := some dx) (wpAny_bind (wpAny_pure (wpAny_bind ?_)))
  unfold nsSet
  refine wpAny_bind (wpAny_bind (wpAny_askSetting (wpAny_pure (wpAny_bind (wpAny_mkText (wpAny_bind (wpAny_loadPart D ?_)))))))
  unfold lookIn at hl
  split at hl
  · rename_i es₀ n₀ q
    rw [q]
    dsimp only
    have c : (!es₀.any (·.key.isStr name) && es₀.any (·.refKey)) = false := by
      rw [← Array.any_toList, ← Array.any_toList]
      split at hl
      · rename_i en he
        rw [List.any_eq_true.mpr ⟨en, List.mem_of_find?_eq_some he, List.find?_some he⟩]; rfl
      · split at hl
        · cases hl
        · rename_i z; rw [Bool.not_eq_true] at z; rw [z, Bool.and_false]
    rw [aRefKeyMayBeTheName_at, c]
    refine wpAny_updatePart D ?_
    refine wpAny_bind (wpAny_lookBehind D' (by rw [e']; exact pastItsLine_dict (by rw [List.size_toArray, sizeLine_eq]; omega)) ?_)
    exact wpAny_pure (h _ U1 U2)
  · cases hl
theorem set_exc {dx : Addr} {l' : List DictEntry} {n' : Nat} {news news' : List (Addr × Obj)} {Q : Unit → Shared → Prop} (F : Fr h₀ L s.heap m) (X₀ : K.In h₀) (N : News h₀ L s.heap news) (I : InstAt s.heap x ox C (some (dictOf l n))) (hd : ox.dict = some dx)
    (hs : findIn K (.ref C) "__setattr__" = some (some (.builtin "object.__setattr__"))) (hx : excOver K C = true) (hh : hasDictIn K C = true) (ha : findIn K (.ref C) name = some none) (hl : (getL name l).isSome = true)
    (e : (putL name (PyData.keyHash w.params name) (.str name (s.toks + 1)) v l, putN name l n) = (l', n')) (U : Upd dx (dictOf l n) (dictOf l' n') news news') (hz : l'.length ≤ 1000)
    (h : ∀ h', Fr h₀ L h' m → News h₀ L h' news' → Q () { s with heap := h', toks := s.toks + 2 }) : wpAny (model prog w) A (setAttr (.ref x) name v) Q E s := by
  obtain ⟨pre, post, rfl, rfl, a, b⟩ := U.split
  obtain ⟨e1, e2⟩ := Prod.mk.inj e
  exact set_plain (X₀.keeps F.keep) I hs (exc_dict (s := { s with toks := s.toks + 1 }) F N (X₀.keeps F.keep) I hd hx ha hh hl a b (by rw [putName_dict, e1, e2]) rfl hz fun h' F' N' => h h' F' N')

/-- the first store: the exception's own dict is made -/
theorem set_exc0 {vs : Array Value} {sl : Array (Option Value)} {Q : Unit → Shared → Prop} (F : Fr h₀ L s.heap m) (X₀ : K.In h₀) (hx : s.heap.get? x = some ({ cls := .ref C, data := .fields vs, slots := sl } : Obj))
    (hs : findIn K (.ref C) "__setattr__" = some (some (.builtin "object.__setattr__"))) (hxo : excOver K C = true) (hh : hasDictIn K C = true) (ha : findIn K (.ref C) name = some none)
    (h : ∀ h', Heap.SameBut x (s.heap.push (dictOf (putL name (PyData.keyHash w.params name) (.str name (s.toks + 1)) v []) (putN name [] 0))) h' →
      h'.get? x = some ({ cls := .ref C, dict := some s.heap.objs.size, data := .fields vs, slots := sl } : Obj) → Q () { s with heap := h', toks := s.toks + 2 }) : wpAny (model prog w) A (setAttr (.ref x) name v) Q E s := by
  have X := X₀.keeps F.keep
  have I : InstAt s.heap x ({ cls := .ref C, data := .fields vs, slots := sl } : Obj) C none := ⟨hx, rfl, rfl, trivial⟩
  refine set_plain X I hs ?_
  refine exc_open (s := { s with toks := s.toks + 1 }) X I hxo ha fun b => ?_
  obtain ⟨cd, hc, hd'⟩ := any_some hh
  have hne : x ≠ s.heap.objs.size := Nat.ne_of_lt (Heap.lt_size hx)
  have hx1 := Heap.get?_push_of_some ({ cls := .type "dict", data := .dict #[] } : Obj) hx
  have hd1 : (s.heap.push ({ cls := .type "dict", data := .dict #[] } : Obj)).get? s.heap.objs.size = some { cls := .type "dict", data := .dict #[] } := Heap.get?_push_size _ rfl
  have hd2 : ((s.heap.push ({ cls := .type "dict", data := .dict #[] } : Obj)).update x (fun o => { o with dict := some s.heap.objs.size })).get? s.heap.objs.size = some { cls := .type "dict", data := .dict #[] } := by
    rw [Heap.get?_update_other _ _ hne]; exact hd1
  have hx2 : ((s.heap.push ({ cls := .type "dict", data := .dict #[] } : Obj)).update x (fun o => { o with dict := some s.heap.objs.size })).get? x = some ({ cls := .ref C, dict := some s.heap.objs.size, data := .fields vs, slots := sl } : Obj) :=
    Heap.get?_update_self _ hx1 rfl
  have hput : Obj.putName name (PyData.keyHash w.params name) (.str name (s.toks + 1)) v ({ cls := .type "dict", data := .dict #[] } : Obj) = dictOf (putL name (PyData.keyHash w.params name) (.str name (s.toks + 1)) v []) (putN name [] 0) := putName_dict ..
  refine wpAny_bind (wpAny_pure (wpAny_bind (wpAny_bind (wpAny_loadPart hx (wpAny_bind (looks_clsIn (M := model prog w) X hc _ _ _ _ (fun _ _ e => e) ?_))))))
  rw [hd']
  show wpAny _ _ (alloc _ >>= _) _ _ _
  refine wpAny_bind (wpAny_alloc (wpAny_bind (wpAny_update hx1 ?_)))
  refine wpAny_pure (a := some s.heap.objs.size) (wpAny_bind (wpAny_pure (wpAny_bind ?_)))
  unfold nsSet
  refine wpAny_bind (wpAny_bind (wpAny_askSetting (wpAny_pure (wpAny_bind (wpAny_mkText (wpAny_bind (wpAny_loadPart hd2 ?_)))))))
  dsimp only
  have c : (!(#[] : Array DictEntry).any (·.key.isStr name) && (#[] : Array DictEntry).any (·.refKey)) = false := by simp
  rw [aRefKeyMayBeTheName_at, c]
  have hd3 := Heap.get?_update_self (Obj.putName name (PyData.keyHash w.params name) (.str name (s.toks + 1)) v) hd2 (by rw [hput]; rfl)
  rw [hput] at hd3
  refine wpAny_updatePart hd2 ?_
  refine wpAny_bind (wpAny_lookBehind hd3 (by
    refine pastItsLine_dict ?_
    show (putL name (PyData.keyHash w.params name) (.str name (s.toks + 1)) v []).toArray.size ≤ _
    rw [List.size_toArray, sizeLine_eq]
    show 1 ≤ _
    omega) ?_)
  refine wpAny_pure (h _ ⟨?_, fun b hb => ?_⟩ ?_)
  · rw [Heap.size_after_update, Heap.size_after_update, Heap.size_push, Heap.size_push]
  · by_cases hbd : b = s.heap.objs.size
    · subst hbd
      exact hd3.trans (Heap.get?_push_size _ rfl).symm
    · rw [Heap.get?_update_other _ _ (Ne.symm hbd), Heap.get?_update_other _ _ (Ne.symm hb)]
      rw [Heap.get?_push_ne _ _ _ hbd, Heap.get?_push_ne _ _ _ hbd]
  · rw [Heap.get?_update_other _ _ (Ne.symm hne)]
    exact hx2
end
end Mine
end

section
/-! an exception of the text's own is made, its own __init__ run -/
set_option maxRecDepth 100000
namespace Mine
open PySem PySem.W PySem.W.X PySem.Calls PyProof.Rows PySem.Spec

theorem excNew_of {K : Frag} {h : Heap} {C : Addr} (X : K.In h) (q : excNewIn K C = true) :
    specialIn K (.ref C) "__call__" = some (some (.builtin "type.__call__")) ∧ instIn K (.ref C) (.type "type") = some true ∧
    ∃ nm qn N bs bm hd sn sub ab col dd k0 k1 k2 k3 k5, h.get? C = some (excClassObj nm qn C N bs bm hd sn sub ab col dd k0 k1 k2 k3 k5 "Exception.__new__") ∧ OwnTail h excBm bm := by
  unfold excNewIn at q
  rw [Bool.and_eq_true, Bool.and_eq_true] at q
  obtain ⟨⟨q1, q2⟩, q⟩ := q
  refine ⟨beq_iff_eq.mp q1, beq_iff_eq.mp q2, ?_⟩
  split at q
  · rename_i dd cd sl ho
    split at q
    · rename_i C' bm k0 k1 k2 k3 n k5 hm hs
      simp only [Bool.and_eq_true, beq_iff_eq, Bool.not_eq_true'] at q
      obtain ⟨⟨⟨rfl, rfl⟩, hdel⟩, ht⟩ := q
      obtain ⟨nm, bs, mro, ns, qn, hd, sn, sub, ab, col, del⟩ := cd
      dsimp only at hm hdel
      subst hm hdel
      have hsl : sl = #[k0, k1, k2, k3, some (.builtin "Exception.__new__"), k5] := by
        obtain ⟨l⟩ := sl
        simp only at hs
        rw [hs]
      subst hsl
      exact ⟨nm, qn, ns, bs, bm, hd, sn, sub, ab, col, dd, k0, k1, k2, k3, k5, X _ _ ho, tail_of_in X ht⟩
    · cases q
  · cases q

section
variable {prog : Program} {w : World} {A : Around} {E : Value → Shared → Prop} {s : Shared} {K : Frag} {C L : Addr} {h₀ : Heap} {m : Str → Option Value} {news : News'} {fI : Addr}
theorem exc_core {R : Result → Shared → Prop} {rest : List Value} {h : Heap} {g : Array GenState} {d : Drawn} {t : Nat} {os : OsState} (X : K.In h) (hx : excNewIn K C = true) (hi : findIn K (.ref C) "__init__" = some (some (.ref fI))) (hf : typeIn K (.ref fI) = some (.type "function")) (hrest : rest.length ≤ sizeLine)
    (hq : codeAny (model prog w) (A.under (.builtin "type.__call__" ⟨.ref C :: rest, []⟩)) (.call (.ref fI) ⟨.ref (h.objs.size + 1) :: rest, []⟩) (InitBack (h.objs.size + 1) R)
      ⟨(h.push { cls := .type "tuple", data := .seq rest.toArray }).push { cls := .ref C, data := .fields #[.ref h.objs.size, .none, .none, .none, .bool false, .none] }, g, d, t, os⟩) :
    codeAny (model prog w) A (.call (.ref C) ⟨rest, []⟩) R ⟨h, g, d, t, os⟩ := by
  obtain ⟨e7, e8, nm, qn, N, bs, bm, hd, sn, sub, ab, col, dd, k0, k1, k2, k3, k5, hC, T⟩ := excNew_of X hx
  have call : Looks (model prog w) h (specialOf (.ref C) "__call__") (some (.builtin "type.__call__")) := looks_specialIn X e7
  have typ : Looks (model prog w) h (isInstance (.ref C) (.type "type")) true := looks_instIn X e8
  have hinit : Looks (model prog w) h (typeLookup (.ref C) "__init__") (some (.ref fI)) := looks_findIn X hi
  have hb : ∀ self, Looks (model prog w) h (bindSpecial (.ref fI) self) (.ref fI, [self]) := fun self => bind_fn X self hf
  have Fn := PySem.F.excBase_Exception
  have hBn : excBm.contains (.type "Exception") = true := by decide +kernel
  refine codeAny_of_tree ?_
  show wpAny _ _ (callAny (.ref C) _) _ _ _
  refine nd_load hC ?_
  show wpAny _ _ (callAny.viaDunder (.ref C) _) _ _ _
  unfold callAny.viaDunder
  refine wpAny_bind (call.at ?_)
  dsimp only
  rw [tc_bind]
  refine wpAny_bind (wpAny_pure (wpAny_bind (wpAny_pure ?_)))
  refine wpAny_pure (a := Fin.again (.call (.builtin "type.__call__") ⟨.ref C :: rest, []⟩)) (And.intro rfl ?_)
  refine codeAny_call_builtin_at (Code.quiet_builtin _ (by decide +kernel)) entry_typeCall (check_slot tc_kind tc_split typ (tc_args _ _ _) ?_)
  unfold Builtin.«type.__call__»
  repeat (first | with_reducible refine wpAny_loadPart_at hC ?_ | with_reducible refine wpAny_madeBy_exc hC ?_ | wp_step)
  refine codeAny_call_builtin_code (Code.quiet_builtin _ Fn.quiet) (wpAny_check_new_subU Fn hBn T hC ?_)
  refine codeAny_exc_new_subU Fn hBn Fn T hC ?_ hrest
  show wpAny _ _ _ _ _ _
  have kp : ∀ b o, h.get? b = some o → ((h.push { cls := .type "tuple", data := .seq rest.toArray }).push { cls := .ref C, data := .fields #[.ref h.objs.size, .none, .none, .none, .bool false, .none] }).get? b = some o := fun b o e => Heap.get?_push_of_some _ (Heap.get?_push_of_some _ e)
  have hC₁ := kp _ _ hC
  have hget : ((h.push { cls := .type "tuple", data := .seq rest.toArray }).push
      { cls := .ref C, data := .fields #[.ref h.objs.size, .none, .none, .none, .bool false, .none] }).get? (h.objs.size + 1) = some
      { cls := .ref C, data := .fields #[.ref h.objs.size, .none, .none, .none, .bool false, .none] } := by heap_get
  have hcC : (Value.ref C :: bm).contains (.ref C) = true := by simp
  have t1 : Looks (model prog w) ((h.push { cls := .type "tuple", data := .seq rest.toArray }).push { cls := .ref C, data := .fields #[.ref h.objs.size, .none, .none, .none, .bool false, .none] }) (typeOf (.ref (h.objs.size + 1))) (.ref C) := (Looks.ld hget).andThen .now
  have i1 := hinit.keeps kp
  have b1 := (hb (.ref (h.objs.size + 1))).keeps kp
  unfold isInstance
  repeat (first | with_reducible refine wpAny_loadPart_at hget ?_ | (with_reducible refine wpAny_isSubtype_exc hC₁ ?_; rw [hcC]) | wp_step)
  dsimp only
  refine i1.at ?_
  dsimp only
  refine wpAny_holding (wpAny_bind (b1.at ?_))
  dsimp only
  refine wpAny_bind (wpAny_call ?_)
  refine codeAny_mono hq fun r s' z => ?_
  rcases r with e | (v | _ | _ | _) <;> first | exact z | exact z.elim | skip
  obtain ⟨rfl, z⟩ := z
  exact wpAny_pure (wpAny_pure z)

theorem call_exc {Q : Value → Shared → Prop} {pos : List Value} (F : Fr h₀ L s.heap m) (X₀ : K.In h₀) (N : News h₀ L s.heap news) (hx : excNewIn K C = true) (hi : findIn K (.ref C) "__init__" = some (some (.ref fI))) (hf : isFn K (.ref fI) = true) (hpos : pos.length < 2000)
    (h : ∀ x vs sl h', Fr h₀ L h' m → News h₀ L h' ((x, ({ cls := .ref C, data := .fields vs, slots := sl } : Obj)) :: news) → (∀ p ∈ news, p.1 < x) → 5 < vs.size → vs[1]? = some .none →
      codeAny (model prog w) (A.under (.builtin "type.__call__" ⟨.ref C :: pos, []⟩)) (.call (.ref fI) ⟨.ref x :: pos, []⟩) (InitBack x fun r s' => match r with | .ok (.ret v) => Q v s' | .ok _ => False | .error e => E e s') { s with heap := h' }) :
    wpAny (model prog w) A (call (.ref C) pos []) Q E s := by
  obtain ⟨hh, g, d, t, os⟩ := s
  refine wpAny_call (exc_core (X₀.keeps F.keep) hx hi (beq_iff_eq.mp hf) (by rw [sizeLine_eq]; omega) ?_)
  have F1 := F.push ({ cls := .type "tuple", data := .seq pos.toArray } : Obj)
  have N1 : News h₀ L (hh.push ({ cls := .type "tuple", data := .seq pos.toArray } : Obj)) news := fun p hp => News.push F N ({ cls := .type "tuple", data := .seq pos.toArray } : Obj) rfl p (.tail _ hp)
  have N2 := News.push F1 N1 ({ cls := .ref C, data := .fields #[.ref hh.objs.size, .none, .none, .none, .bool false, .none] } : Obj) rfl
  rw [Heap.size_push] at N2
  exact h (hh.objs.size + 1) #[.ref hh.objs.size, .none, .none, .none, .bool false, .none] #[] _ (F1.push _) N2 (fun p hp => Nat.lt_succ_of_lt (Heap.lt_size (N p hp).1)) (Nat.lt_succ_self 5) rfl
end
end Mine
end

section
/-! what a run of the evaluator says of the machine -/
set_option maxRecDepth 100000
namespace Mine
open PySem PySem.W PySem.W.X PySem.Calls PyProof.Rows PySem.Spec

/-- the law's world -/
structure Wd where
  prog : Program
  w : World
  K : Frag
  G : Sg
  p : Program
  loose : List Str
  mg : Str → Option Value
  mb : Str → Option Value
  R : Addr
  z : Nat
  ns : List Int
noncomputable abbrev Wd.M (D : Wd) : Model := model D.prog D.w

/-- a frame, or a block within it -/
structure Cx where
  A : Around
  base : Heap
  outer : List Env
  h₀ : Heap
  L : Addr
  env : Env
  fe : Env

structure Cx.Ok (D : Wd) (c : Cx) (cn : Cn) (d : Nat) : Prop where
  X : D.K.In c.h₀
  H : KT.Holds c.h₀ 1 0 D.G.T
  TR : TopRead D.p D.loose D.mg D.mb c.h₀
  B : ∃ A₀, Below A₀ c.base c.outer c.h₀
  hA : c.A.frames = some (c.fe :: c.outer)
  hf : c.fe.frame = some c.L
  hfk : c.fe.scope.kind = .function
  ef : c.env.frame = some c.L
  hk : c.env.scope.kind = .function
  hg : c.env.globals = mainGlobals
  hb : c.env.builtins = builtinsNs
  dbg : c.env.kindOf nDebug = none
  nml : ∀ x, lk cn.names x = some .local → c.env.kindOf x = some .local
  nmg : ∀ x, lk cn.names x = some .globalImplicit → c.env.kindOf x = some .globalImplicit
  dep : c.A.depth + 4 * d ≤ 800
  uni : c.A.units + 20 * d ≤ 9000
  hh : cn.rz = true → c.A.handled = none
  dl : d ≤ 30
  seer : c.h₀.NoSeer
  top : 30 ≤ d → c.base = c.h₀

/-- where the block's own names lie -/
noncomputable def LocAt (c : Cx) (m : Str → Option Value) (fz : News') (ml : Str → Option Value) : Prop :=
  (c.env.locals = c.L ∧ ml = m) ∨ ∃ o es ep, (c.env.locals, o) ∈ fz ∧ o.data = .dict es ep ∧ StrKeys es ∧ ∀ name, nsFind es name = ml name
structure Rho (c : Cx) (ρ : Loc) (m : Str → Option Value) (fz : News') (as : As) : Prop where
  loc : ∃ ml, LocAt c m fz ml ∧ ∀ x a, lk ρ x = some (.val a) → c.env.kindOf x = some .local ∧ ∃ v, ml x = some v ∧ VR as a v
  cel : ∀ x i, lk ρ x = some (.cell i) → c.env.kindOf x = some .cell ∧ ∃ a, c.env.cells.lookup x = some a ∧ as[i]? = some a
theorem Rho.ex {c : Cx} {ρ : Loc} {m : Str → Option Value} {fz : News'} {as as' : As} (r : Rho c ρ m fz as) (h : Ex as as') : Rho c ρ m fz as' := by
  obtain ⟨⟨ml, a, b⟩, e⟩ := r
  refine ⟨⟨ml, a, fun x v q => ?_⟩, fun x i q => ?_⟩
  · obtain ⟨b1, u, b2, b3⟩ := b x v q; exact ⟨b1, u, b2, b3.ex h⟩
  · obtain ⟨e1, u, e2, e3⟩ := e x i q; exact ⟨e1, u, e2, h.get e3⟩

noncomputable abbrev SRD (D : Wd) (h₀ : Heap) (L : Addr) (fz : News') (σ : St) (news : News') (h : Heap) : Prop := SR D.R D.z D.ns D.w.params h₀ L fz σ news h
noncomputable abbrev ORD (D : Wd) (as : As) (o : AO) (ob : Obj) : Prop := OR D.R D.z D.w.params as o ob

structure Here (D : Wd) (c : Cx) (cn : Cn) (d : Nat) (ρ : Loc) (m : Str → Option Value) (fz news : News') (σ : St) (h : Heap) : Prop where
  ok : c.Ok D cn d
  F : Fr c.h₀ c.L h m
  S : SRD D c.h₀ c.L fz σ news h
  rho : Rho c ρ m fz (adr news)

/-- an exception on its way out of the frame -/
noncomputable def Tr8 (base : Heap) (l : News') (ea : Addr) (h : Heap) : Prop :=
  ∃ oe vs, h.get? ea = some oe ∧ oe.data = .fields vs ∧ (vs[1]? = some .none ∨ ∃ T oT ts, vs[1]? = some (.ref T) ∧ base.get? T = none ∧ (∀ q ∈ l, q.1 ≠ T) ∧ h.get? T = some oT ∧ oT.data = .fields ts ∧ ts[3]? = some .none)
noncomputable def Fly (D : Wd) (c : Cx) (m : Str → Option Value) (fz news : News') (σ : St) (b : AV) (e : Value) (h : Heap) : Prop :=
  ∃ i C dd ea, b = .own i ∧ σ.get i = some (.trc C dd) ∧ (adr news)[i]? = some ea ∧ e = .ref ea ∧ (∃ g, Fr c.h₀ c.L g m ∧ g.UpToSlots h) ∧ c.base.StaysIn h ∧ h.FunFrames c.base (c.fe :: c.outer) ∧
    SRD D c.base c.L fz σ news h ∧ (∀ env ∈ c.outer, ∀ q ∈ news ++ fz, env.frame ≠ some q.1) ∧ Tr8 c.base (news ++ fz) ea h

noncomputable abbrev up (s : Shared) (h : Heap) (t : Nat) : Shared := { s with heap := h, toks := t }

noncomputable def PostE (D : Wd) (c : Cx) (cn : Cn) (d : Nat) (ρ : Loc) (m : Str → Option Value) (fz news : News') (k : KE) (s : Shared) (Q : Value → Shared → Prop) : Prop :=
  ∀ b σ' news' v h t, Ex (adr news) (adr news') → Here D c cn d ρ m fz news' σ' h → VR (adr news') b v → k b σ' = true → Q v (up s h t)
noncomputable def PostX (D : Wd) (c : Cx) (m : Str → Option Value) (fz news : News') (x : KE) (s : Shared) (E : Value → Shared → Prop) : Prop :=
  ∀ b σ' news' v h t, Ex (adr news) (adr news') → Fly D c m fz news' σ' b v h → x b σ' = true → E v (up s h t)
noncomputable def PostEs (D : Wd) (c : Cx) (cn : Cn) (d : Nat) (ρ : Loc) (m : Str → Option Value) (fz news : News') (k : KEs) (s : Shared) (Q : List Value → Shared → Prop) : Prop :=
  ∀ bs σ' news' vs h t, Ex (adr news) (adr news') → Here D c cn d ρ m fz news' σ' h → All2 (VR (adr news')) bs vs → k bs σ' = true → Q vs (up s h t)
noncomputable def PostT (D : Wd) (c : Cx) (cn : Cn) (d : Nat) (ρ : Loc) (m : Str → Option Value) (fz news : News') (k : KT') (s : Shared) (Q : Bool → Shared → Prop) : Prop :=
  ∀ b σ' news' h t, Ex (adr news) (adr news') → Here D c cn d ρ m fz news' σ' h → k b σ' = true → Q b (up s h t)
noncomputable def FlR (as : As) : Fl → Flow → Prop
  | .next, f => f = .next
  | .brk, f => f = .brk
  | .cont, f => f = .cont
  | .ret a, f => ∃ v, f = .ret v ∧ VR as a v
noncomputable def PostS (D : Wd) (c : Cx) (cn : Cn) (d : Nat) (fz news : News') (k : KS) (s : Shared) (Q : Flow → Shared → Prop) : Prop :=
  ∀ fl ρ' m' σ' news' f h t, Ex (adr news) (adr news') → Here D c cn d ρ' m' fz news' σ' h → FlR (adr news') fl f → k fl ρ' σ' = true → Q f (up s h t)
noncomputable def PostXs (D : Wd) (c : Cx) (fz news : News') (x : KX) (s : Shared) (E : Value → Shared → Prop) : Prop :=
  ∀ b ρ' m' σ' news' v h t, Ex (adr news) (adr news') → Rho c ρ' m' fz (adr news') → Fly D c m' fz news' σ' b v h → x b ρ' σ' = true → E v (up s h t)

section
variable {D : Wd} {c : Cx} {cn : Cn} {d : Nat} {ρ : Loc} {m : Str → Option Value} {fz news news' : News'} {σ σ' : St} {s : Shared} {h : Heap} {t : Nat}
theorem PostX.nx {E : Value → Shared → Prop} : PostX D c m fz news nx s E := fun _ _ _ _ _ _ _ _ e => (by cases e)
theorem PostX.on {x : KE} {E : Value → Shared → Prop} (p : PostX D c m fz news x s E) (e : Ex (adr news) (adr news')) : PostX D c m fz news' x (up s h t) E :=
  fun b σ' n v h' t' e' f q => p b σ' n v h' t' (e.trans e') f q
theorem PostXs.nx {E : Value → Shared → Prop} : PostXs D c fz news nxs s E := fun _ _ _ _ _ _ _ _ _ _ _ e => (by cases e)
theorem PostXs.on {x : KX} {E : Value → Shared → Prop} (p : PostXs D c fz news x s E) (e : Ex (adr news) (adr news')) : PostXs D c fz news' x (up s h t) E :=
  fun b ρ m σ' n v h' t' e' r f q => p b ρ m σ' n v h' t' (e.trans e') r f q
theorem PostXs.toX {x : KX} {E : Value → Shared → Prop} (p : PostXs D c fz news x s E) (r : Rho c ρ m fz (adr news)) : PostX D c m fz news (fun v σ => x v ρ σ) s E :=
  fun b σ' n v h' t' e' f q => p b ρ m σ' n v h' t' e' (r.ex e') f q
theorem PostE.here {k : KE} {Q : Value → Shared → Prop} (p : PostE D c cn d ρ m fz news k s Q) (h : Here D c cn d ρ m fz news σ s.heap) {b : AV} {v : Value} {t : Nat} (hv : VR (adr news) b v) (e : k b σ = true) : Q v (up s s.heap t) :=
  p b σ news v s.heap t (Ex.refl _) h hv e
theorem PostT.here {k : KT'} {Q : Bool → Shared → Prop} (p : PostT D c cn d ρ m fz news k s Q) (h : Here D c cn d ρ m fz news σ s.heap) {b : Bool} {t : Nat} (e : k b σ = true) : Q b (up s s.heap t) :=
  p b σ news s.heap t (Ex.refl _) h e

theorem Here.N (h : Here D c cn d ρ m fz news σ s.heap) : News c.h₀ c.L s.heap (news ++ fz) := h.S.nw
theorem Here.X (H : Here D c cn d ρ m fz news σ h) : D.K.In h := H.ok.X.keeps H.F.keep
theorem LocAt.ns {ml : Str → Option Value} (F : Fr c.h₀ c.L h m) (N : News c.h₀ c.L h (news ++ fz)) (l : LocAt c m fz ml) : h.Ns c.env.locals ml := by
  rcases l with ⟨e, rfl⟩ | ⟨o, es, ep, hm, r⟩
  · rw [e]; exact F.ns
  · exact ⟨o, es, ep, (N _ (List.mem_append_right _ hm)).1, r⟩
theorem Here.dbg (H : Here D c cn d ρ m fz news σ h) {x : Str} {k : NameKind} (e : c.env.kindOf x = some k) : (x == ("__debug__" : Str)) = false := by
  have q : nDebug = ("__debug__" : Str) := by decide +kernel
  refine beq_eq_false_iff_ne.mpr fun z => ?_
  have := H.ok.dbg
  rw [q, ← z, e] at this; cases this

/-- a state that keeps all: the same ledger upon another heap -/
theorem Here.grow (H : Here D c cn d ρ m fz news σ h) {h' : Heap} (F' : Fr c.h₀ c.L h' m) (N : News c.h₀ c.L h' (news ++ fz)) : Here D c cn d ρ m fz news σ h' :=
  ⟨H.ok, F', ⟨H.S.rw, H.S.zl, N, H.S.nd, H.S.ln, H.S.lt, H.S.ob⟩, H.rho⟩
theorem fresh_top (N : News c.h₀ c.L h (news ++ fz)) : ∀ q ∈ news ++ fz, q.1 ≠ h.objs.size := fun q hq => Nat.ne_of_lt (Heap.lt_size (N q hq).1)
theorem lt3900 {n : Nat} (h : Nat.blt n 3900 = true) : n < 4000 := Nat.lt_trans (Nat.le_of_ble_eq_true h) (by decide)
theorem blt_lt {a b : Nat} (h : Nat.blt a b = true) : a < b := Nat.le_of_ble_eq_true h
theorem small_sz {n : Nat} (h : n < 2000) : n ≤ sizeLine := by rw [sizeLine_eq]; omega
theorem adr_app (news : News') (a : Addr) (o : Obj) : adr (news ++ [(a, o)]) = adr news ++ [a] := by simp [adr]
theorem vr_new (H : Here D c cn d ρ m fz news σ h) (a : Addr) (o : Obj) : VR (adr (news ++ [(a, o)])) (.own σ.n) (.ref a) := ⟨a, by rw [adr_app, ← H.S.ln]; simp [adr], rfl⟩
theorem Here.push (H : Here D c cn d ρ m fz news σ h) {a : Addr} {ob : Obj} {o : AO} (hr : ORD D (adr news ++ [a]) o ob) (hn : σ.n < 4000) {h' : Heap} (F' : Fr c.h₀ c.L h' m)
    (N : News c.h₀ c.L h' ((a, ob) :: (news ++ fz))) (hf : ∀ p ∈ news ++ fz, p.1 ≠ a) : Here D c cn d ρ m fz (news ++ [(a, ob)]) (σ.push o) h' :=
  ⟨H.ok, F', H.S.push hr hn N hf, H.rho.ex ⟨[a], adr_app ..⟩⟩
theorem Here.set (H : Here D c cn d ρ m fz news σ h) {i : Nat} {a : Addr} {ob ob' : Obj} {o o' : AO} (e : σ.get i = some o) (hi : news[i]? = some (a, ob)) (hr : ORD D (adr news) o' ob') {h' : Heap} (F' : Fr c.h₀ c.L h' m)
    (N : News c.h₀ c.L h' (news.set i (a, ob') ++ fz)) : Here D c cn d ρ m fz (news.set i (a, ob')) (σ.set i o') h' :=
  ⟨H.ok, F', H.S.set e hi hr N, by rw [adr_set hi]; exact H.rho⟩
/-- a store at one place of the ledger -/
theorem news_same {i : Nat} {a : Addr} {ob ob' : Obj} {h' : Heap} (H : Here D c cn d ρ m fz news σ h) (hi : news[i]? = some (a, ob)) (hs : Heap.SameBut a h h') (ho : h'.get? a = some ob') :
    Fr c.h₀ c.L h' m ∧ News c.h₀ c.L h' (news.set i (a, ob') ++ fz) := by
  have N := H.S.nw
  have Na := N (a, ob) (List.mem_append_left _ (List.mem_of_getElem? hi))
  have F := H.F
  refine ⟨⟨F.ns.sameBut hs (Ne.symm Na.2.1), fun b o e => (hs.2 b (fun q => ?_)).trans (F.keep b o e), F.above⟩, ?_⟩
  · rw [q, Na.2.2] at e; cases e
  · obtain ⟨pre, post, e1, e2, h1, h2⟩ := (H.S.upd (ob' := ob') hi).split
    rw [e2]
    rw [e1] at N
    exact N.setAt h1 h2 hs ho
end

/-! the rules of the leaves -/
/-- the tables say so -/
structure ClOk (K : Frag) (C : Addr) (cd : ClD) : Prop where
  pg : cd.exc = false → ∀ n, plainGet K C n = true
  hd : hasDictIn K C = true
  sa : cd.exc = false → findIn K (.ref C) "__setattr__" = some (some (.builtin "object.__setattr__"))
  po : cd.exc = false → plainOver K C = true
  xg : cd.exc = true → findIn K (.ref C) "__getattribute__" = some (some (.builtin "BaseException.__getattribute__")) ∧ findIn K (.ref C) "__getattr__" = some none ∧ excOver K C = true
  xs : cd.exc = true → findIn K (.ref C) "__setattr__" = some (some (.builtin "object.__setattr__"))
  xn : cd.exc = true → excNewIn K C = true
  fr : ∀ x, mem x cd.free = true → findIn K (.ref C) x = some none
  ms : ∀ x f, lk cd.meths x = some f → findIn K (.ref C) x = some (some (.ref f)) ∧ isFn K (.ref f) = true ∧ keepIn K (.ref f) = true
  kp : keepIn K (.ref C) = true
  mks : cd.exc = false → makesIn K C = true
  ini : findIn K (.ref C) "__init__" = some (some (.ref cd.init)) ∧ isFn K (.ref cd.init) = true
noncomputable def GlOk (K : Frag) (x : Str) : AV → Prop
  | .old a => nsIn K mainGlobals x = some (some (.ref a))
  | .bi b => nsIn K mainGlobals x = some none ∧ bootBuiltins x = some b.val ∧ x ≠ "__name__"
  | _ => False
structure Wd.Ok (D : Wd) : Prop where
  cls : ∀ C cd, lkN D.G.cls C = some cd → ClOk D.K C cd
  glob : ∀ x v, lk D.G.glob x = some v → GlOk D.K x v
  sys : (D.K.lookup sysModules).isSome = true
  tkp : keepIn D.K (.ref D.G.take) = true

section
variable {D : Wd} {c : Cx} {cn : Cn} {d : Nat} {ρ : Loc} {m : Str → Option Value} {fz news : News'} {σ : St} {s : Shared} {A : Around} {E : Value → Shared → Prop}
theorem name_rule (O : D.Ok) {x : Str} {pos : Pos} {k : KE} {Q : Value → Shared → Prop} (e : evName D.G cn x ρ σ k = true) (H : Here D c cn d ρ m fz news σ s.heap) (hQ : PostE D c cn d ρ m fz news k s Q) :
    wpAny D.M A (eval (.Name x pos) c.env) Q E s := by
  unfold evName at e
  split at e
  · rename_i a hl
    obtain ⟨⟨ml, l, r⟩, _⟩ := H.rho
    obtain ⟨q1, v, q2, q3⟩ := r x a hl
    exact wpAny_Name (wpAny_loadName_local H.ok.hk q1 (l.ns H.F H.S.nw) q2 (hQ.here H (t := s.toks) q3 e)) (H.dbg q1)
  · rename_i i hl
    split at e
    · rename_i a hg
      obtain ⟨q1, ca, q2, q3⟩ := H.rho.cel x i hl
      obtain ⟨a', ob, h1, h2, h3, v?, h4, h5⟩ := H.S.at hg
      rw [q3] at h2; cases h2
      obtain ⟨v, rfl, h6⟩ := h5
      exact wpAny_Name (wpAny_loadName_cell H.ok.hk q1 q2 ⟨ob, h3, h4⟩ (hQ.here H (t := s.toks) h6 e)) (H.dbg q1)
    · cases e
  · split at e
    · rename_i hn
      have q1 := H.ok.nmg x hn
      split at e
      · rename_i a hg
        have g := O.glob x a hg
        refine Name_function_global H.ok.hk q1 ?_ (H.dbg q1)
        have hgl : s.heap.Ns c.env.globals D.mg := by rw [H.ok.hg]; exact H.ok.TR.g.keeps H.F.keep
        cases a with
        | old a => exact loadGlobal_global hgl (mg_of H.ok.X H.ok.TR.g g) (hQ.here H (t := s.toks) (b := .old a) rfl e)
        | bi b =>
          obtain ⟨g1, g2, g3⟩ := g
          refine loadGlobal_builtin hgl (mg_none_of H.ok.X H.ok.TR.g g1) (by rw [H.ok.hb]; exact H.ok.TR.b.keeps H.F.keep) ((H.ok.TR.builtins x g3).trans g2) (hQ.here H (t := s.toks) (b := .bi b) rfl e)
        | _ => exact g.elim
      · cases e
    · cases e

theorem er_find {P : Params} {as : As} {x : Str} {es : List (Str × AV)} {l : List DictEntry} (H : All2 (ER P as) es l) :
    (∀ v, lk es x = some v → ∃ c, getL x l = some (some c) ∧ VR as v c) ∧ (lk es x = none → getL x l = some none) := by
  induction H with
  | nil => exact ⟨fun v e => (by cases e), fun _ => rfl⟩
  | @cons ya e es l h r ih =>
    obtain ⟨y, a⟩ := ya
    obtain ⟨hh, ⟨t, hk⟩, hv⟩ := h
    replace hk : e.key = .str y t := hk
    have isk : e.key.isStr x = seq y x := by rw [hk]; exact seq_beq _ _
    have nr : e.refKey = false := by unfold DictEntry.refKey; rw [hk]
    rw [lk_cons]
    unfold getL
    rw [List.find?_cons, isk]
    cases q : seq y x with
    | true => exact ⟨fun v e => (by cases e; exact ⟨_, rfl, hv⟩), fun e => (by cases e)⟩
    | false =>
      simp only [cond_false]
      rw [List.any_cons, nr, Bool.false_or]
      exact ih
theorem er_put {P : Params} {as : As} {x : Str} {v : AV} {c : Value} {t : Tok} (hv : VR as v c) {es : List (Str × AV)} {l : List DictEntry} (H : All2 (ER P as) es l) :
    All2 (ER P as) (put es x v) (putL x (PyData.keyHash P x) (.str x t) c l) := by
  induction H with
  | nil => exact .cons ⟨rfl, ⟨t, rfl⟩, hv⟩ .nil
  | @cons ya e es l h r ih =>
    obtain ⟨y, a⟩ := ya
    have h' := h
    obtain ⟨hh, ⟨u, hk⟩, hw⟩ := h
    replace hk : e.key = .str y u := hk
    replace hh : e.hash = PyData.keyHash P y := hh
    have isk : e.key.isStr x = seq y x := by rw [hk]; exact seq_beq _ _
    rw [put_cons]
    unfold putL
    rw [isk]
    cases q : seq y x with
    | true => exact .cons ⟨hh, ⟨u, hk⟩, hv⟩ r
    | false => simp only [cond_false, Bool.false_eq_true, if_false]; exact .cons h' ih
theorem put_len {x : Str} {v : AV} : ∀ {es : List (Str × AV)}, (put es x v).length ≤ es.length + 1
  | [] => Nat.le_refl _
  | q :: es => by
    rw [put_cons]
    cases seq q.1 x with
    | true => simp
    | false => simp only [cond_false, List.length_cons]; have := put_len (x := x) (v := v) (es := es); omega

/-- an object of the store: its object, its dict's -/
theorem inst_at (H : Here D c cn d ρ m fz news σ s.heap) {i C dd : Nat} {b : Bool} {es : List (Str × AV)} {v : Value} (hi : instOf σ i = some (C, dd, b)) (hd : σ.get dd = some (.dict es)) (hv : VR (adr news) (.own i) v) :
    ∃ x ox dx l n, v = .ref x ∧ news[dd]? = some (dx, dictOf l n) ∧ InstAt s.heap x ox C (some (dictOf l n)) ∧ ox.dict = some dx ∧ All2 (ER D.w.params (adr news)) es l ∧ (es.map (·.1)).Nodup := by
  have S := H.S
  obtain ⟨dx, ob, h1, h2, h3, l, n, rfl, h4⟩ := S.at hd
  unfold instOf at hi
  split at hi
  · rename_i C' d' e
    cases hi
    obtain ⟨x, ox, rfl, g1, g2, dx', g3, rfl⟩ := S.atV e hv
    rw [h2] at g3; cases g3
    exact ⟨x, _, dx, l, n, rfl, h1, ⟨g2, rfl, rfl, h3⟩, rfl, h4⟩
  · rename_i C' d' e
    cases hi
    obtain ⟨x, ox, rfl, g1, g2, dx', vs, sl, g3, rfl, _⟩ := S.atV e hv
    rw [h2] at g3; cases g3
    exact ⟨x, _, dx, l, n, rfl, h1, ⟨g2, rfl, rfl, h3⟩, rfl, h4⟩
  · rename_i C' d' e
    cases hi
    obtain ⟨x, ox, rfl, g1, g2, dx', vs, sl, g3, rfl⟩ := S.atV e hv
    rw [h2] at g3; cases g3
    exact ⟨x, _, dx, l, n, rfl, h1, ⟨g2, rfl, rfl, h3⟩, rfl, h4⟩
  · cases hi

theorem vr_handed {as : As} {v : AV} {c : Value} (h : VR as v c) : handedIn c = true := by
  cases v with
  | none => rw [h]; rfl
  | bool b => rw [h]; rfl
  | int i => obtain ⟨t, rfl⟩ := h; rfl
  | str s => obtain ⟨t, rfl⟩ := h; rfl
  | bi b => rw [h]; cases b <;> first | rfl | decide +kernel
  | old a => rw [h]; rfl
  | own i => obtain ⟨a, _, rfl⟩ := h; rfl

theorem eqB_iff {a b : Bool} : eqB a b = true ↔ a = b := by cases a <;> cases b <;> simp [eqB]
theorem get_rule (O : D.Ok) {i : AV} {a : Str} {k : KE} {v : Value} {Q : Value → Shared → Prop} {expr : Bool} (e : getV D.G σ i a k = true) (H : Here D c cn d ρ m fz news σ s.heap) (hv : VR (adr news) i v)
    (hQ : PostE D c cn d ρ m fz news k s Q) : wpAny D.M A (getAttr v a expr) Q E s := by
  unfold getV at e
  split at e
  · rename_i i
    split at e
    · rename_i C dd bb hi
      split at e
      · rename_i es hd
        split at e
        · rename_i b hb
          split at e
          · rename_i cd hcd
            split at e
            · rename_i hm
              obtain ⟨hm, hx⟩ := Bool.and_eq_true_iff.mp hm
              obtain ⟨x, ox, dx, l, n, rfl, h1, I, h2, h3, hnd⟩ := inst_at H hi hd hv
              have OC := O.cls C cd hcd
              obtain ⟨c', hc, hr⟩ := (er_find h3).1 b hb
              cases q : cd.exc with
              | false => exact get_own H.F H.ok.X I (OC.pg q _) OC.hd (OC.fr _ hm) rfl hc (vr_handed hr) (hQ.here H hr e)
              | true => exact get_exc H.F H.ok.X I (OC.xg q).1 (OC.xg q).2.1 (OC.xg q).2.2 OC.hd (OC.fr _ hm) hc (vr_handed hr) (hQ.here H hr e)
            · cases e
          · cases e
        · cases e
      · cases e
    · cases e
  · cases e

theorem set_rule (O : D.Ok) {i u : AV} {a : Str} {k : St → Bool} {v c' : Value} {Q : Unit → Shared → Prop} (e : setV D.G σ i a u k = true) (H : Here D c cn d ρ m fz news σ s.heap) (hv : VR (adr news) i v) (hu : VR (adr news) u c')
    (hQ : ∀ σ' news' h t, Ex (adr news) (adr news') → Here D c cn d ρ m fz news' σ' h → k σ' = true → Q () (up s h t)) : wpAny D.M A (setAttr v a c') Q E s := by
  unfold setV at e
  split at e
  · rename_i i
    split at e
    · rename_i C dd bb hi
      split at e
      · rename_i es hd
        split at e
        · rename_i cd hcd
          split at e
          · rename_i hm
            obtain ⟨hm, hz⟩ := Bool.and_eq_true_iff.mp hm
            obtain ⟨hm, hx⟩ := Bool.and_eq_true_iff.mp hm
            obtain ⟨x, ox, dx, l, n, rfl, h1, I, h2, h3, hnd⟩ := inst_at H hi hd hv
            have OC := O.cls C cd hcd
            have hl : (getL a l).isSome = true := by
              cases q : lk es a with
              | none => rw [(er_find h3).2 q]; rfl
              | some b => obtain ⟨_, hc, _⟩ := (er_find h3).1 b q; rw [hc]; rfl
            have hz' : es.length < 900 := blt_lt hz
            have ht : takerIn D.K C a = some none := by unfold takerIn; rw [OC.fr _ hm]; rfl
            have hp := er_put (x := a) (t := s.toks + 1) hu h3
            have hz2 : (putL a (PyData.keyHash D.w.params a) (.str a (s.toks + 1)) c' l).length ≤ 1000 := by
              have := hp.length
              have := put_len (x := a) (v := u) (es := es)
              omega
            have fin : ∀ h', Fr c.h₀ c.L h' m → News c.h₀ c.L h' (news.set dd (dx, dictOf (putL a (PyData.keyHash D.w.params a) (.str a (s.toks + 1)) c' l) (putN a l n)) ++ fz) → Q () { s with heap := h', toks := s.toks + 2 } := fun h' F' N' =>
              hQ _ _ h' _ (by rw [adr_set h1]; exact Ex.refl _) (H.set hd h1 (show ORD D (adr news) (.dict _) _ from ⟨_, _, rfl, hp, put_nodup _ _ _ hnd⟩) F' N') e
            cases q : cd.exc with
            | false => exact set_dict H.F H.ok.X H.S.nw I h2 (OC.sa q) (OC.po q) ht OC.hd hl rfl (H.S.upd h1) hz2 fin
            | true => exact set_exc H.F H.ok.X H.S.nw I h2 (OC.xs q) (OC.xg q).2.2 OC.hd (OC.fr _ hm) hl rfl (H.S.upd h1) hz2 fin
          · cases e
        · cases e
      · cases e
    · split at e
      · rename_i C hi
        split at e
        · rename_i cd hcd
          split at e
          · rename_i hm
            obtain ⟨hm, hz⟩ := Bool.and_eq_true_iff.mp hm
            obtain ⟨hm, q⟩ := Bool.and_eq_true_iff.mp hm
            have OC := O.cls C cd hcd
            obtain ⟨x, ob, rfl, g1, g2, vs, sl, rfl, g3, g4⟩ := H.S.atV hi hv
            refine set_exc0 H.F H.ok.X g2 (OC.xs q) (OC.xg q).2.2 OC.hd (OC.fr _ hm) (fun h' hs hx' => ?_)
            have hp := er_put (P := D.w.params) (as := adr news) (x := a) (t := s.toks + 1) hu (es := []) (l := []) .nil
            have H1 : Here D c cn d ρ m fz (news ++ [(s.heap.objs.size, dictOf (putL a (PyData.keyHash D.w.params a) (.str a (s.toks + 1)) c' []) (putN a [] 0))]) (σ.push (.dict [(a, u)])) (s.heap.push (dictOf (putL a (PyData.keyHash D.w.params a) (.str a (s.toks + 1)) c' []) (putN a [] 0))) :=
              H.push (o := .dict [(a, u)]) ⟨_, _, rfl, hp.imp fun _ _ => ER.ex ⟨_, rfl⟩, by simp⟩ (lt3900 hz) (H.F.push _) (News.push H.F H.S.nw _ rfl) (fresh_top H.S.nw)
            have hl := (List.getElem?_eq_some_iff.mp g1).1
            have g1' : (news ++ [(s.heap.objs.size, dictOf (putL a (PyData.keyHash D.w.params a) (.str a (s.toks + 1)) c' []) (putN a [] 0))])[i]? = some (x, ({ cls := .ref C, data := .fields vs, slots := sl } : Obj)) := by rw [List.getElem?_append_left hl]; exact g1
            have hi1 : (σ.push (.dict [(a, u)])).get i = some (.exc0 C) := by
              show (Tr.put 13 σ.t σ.n _).get i = _
              have := H.S.idx hi
              have := H.S.lt
              rw [Tr.get_put _ 13 σ.t σ.n i (by omega), if_neg (by omega)]; exact hi
            obtain ⟨F', N'⟩ := news_same H1 g1' hs hx'
            refine hQ _ _ h' _ ?_ (H1.set hi1 g1' (show ORD D _ (.exc C σ.n) _ from ⟨s.heap.objs.size, vs, sl, ?_, rfl, g3, g4⟩) F' N') e
            · rw [adr_set g1']; exact ⟨_, adr_app ..⟩
            · rw [adr_app, ← H.S.ln]; simp [adr]
          · cases e
        · cases e
      · cases e
  · cases e
end
end Mine
end

section
/-! lists, tuples, slices -/
set_option maxRecDepth 100000
namespace Mine
open PySem PySem.W PySem.W.X PySem.Calls PyProof.Rows PySem.Spec

section
variable {D : Wd} {c : Cx} {cn : Cn} {d : Nat} {ρ : Loc} {m : Str → Option Value} {fz news : News'} {σ : St} {s : Shared} {A : Around} {E : Value → Shared → Prop}

theorem isList_of (H : Here D c cn d ρ m fz news σ s.heap) {i : Nat} {xs : List AV} {v : Value} (e : σ.get i = some (.list xs)) (hv : VR (adr news) (.own i) v) :
    ∃ a vs n, v = .ref a ∧ news[i]? = some (a, ({ cls := .type "list", data := .seq (List.toArray vs) n } : Obj)) ∧ s.heap.get? a = some ({ cls := .type "list", data := .seq (List.toArray vs) n } : Obj) ∧ s.heap.IsList a (List.toArray vs) ∧ All2 (VR (adr news)) xs vs := by
  obtain ⟨a, ob, rfl, h1, h2, vs, n, rfl, h3⟩ := H.S.atV e hv
  exact ⟨a, vs, n, rfl, h1, h2, ⟨_, h2, rfl, n, rfl⟩, h3⟩
theorem isTup_of (H : Here D c cn d ρ m fz news σ s.heap) {i : Nat} {xs : List AV} {v : Value} (e : σ.get i = some (.tup xs)) (hv : VR (adr news) (.own i) v) :
    ∃ a vs, v = .ref a ∧ IsTup s.heap a (List.toArray vs) ∧ All2 (VR (adr news)) xs vs := by
  obtain ⟨a, ob, rfl, h1, h2, vs, n, rfl, h3⟩ := H.S.atV e hv
  exact ⟨a, vs, rfl, ⟨_, h2, rfl, n, rfl⟩, h3⟩

/-- something new at whatever new address -/
theorem mk_at {o : AO} {ob : Obj} {k : KE} {Q : Value → Shared → Prop} {a : Addr} {h' : Heap} {t : Nat} (H : Here D c cn d ρ m fz news σ s.heap) (e : mk σ o k = true) (hr : ORD D (adr news) o ob) (F' : Fr c.h₀ c.L h' m)
    (N' : News c.h₀ c.L h' ((a, ob) :: (news ++ fz))) (hf : ∀ q ∈ news ++ fz, q.1 ≠ a) (hQ : PostE D c cn d ρ m fz news k s Q) : Q (.ref a) (up s h' t) := by
  unfold mk at e
  split at e
  · rename_i hn
    exact hQ (.own σ.n) _ (news ++ [(a, _)]) _ h' t ⟨_, adr_app ..⟩ (H.push (hr.ex ⟨_, rfl⟩) (lt3900 hn) F' N' hf) (vr_new H _ _) e
  · cases e
theorem mk_list {xs : List AV} {vs : List Value} {k : KE} {Q : Value → Shared → Prop} (H : Here D c cn d ρ m fz news σ s.heap) (e : mk σ (.list xs) k = true) (hv : All2 (VR (adr news)) xs vs) (hl : vs.length ≤ sizeLine)
    (hQ : PostE D c cn d ρ m fz news k s Q) : wpAny D.M A (newList vs) Q E s :=
  newList_N H.F H.S.nw (fun h' F' N' => mk_at (o := .list xs) (t := s.toks) H e ⟨vs, _, rfl, hv⟩ F' N' (fresh_top H.S.nw) hQ) hl
theorem mk_tup {xs : List AV} {vs : List Value} {k : KE} {Q : Value → Shared → Prop} (H : Here D c cn d ρ m fz news σ s.heap) (e : mk σ (.tup xs) k = true) (hv : All2 (VR (adr news)) xs vs) (hl : vs.length ≤ sizeLine)
    (hQ : PostE D c cn d ρ m fz news k s Q) : wpAny D.M A (newTuple vs) Q E s :=
  newTuple_N H.F H.S.nw (fun h' F' N' => mk_at (o := .tup xs) (t := s.toks) H e ⟨vs, _, rfl, hv⟩ F' N' (fresh_top H.S.nw) hQ) hl

theorem isSlice_not {sl : Expr} (h : ∀ a b c p, sl ≠ .Slice a b c p) (o i : Value) : subscripted sl false o i = operate [o, i] (getItem o i) := by
  cases sl <;> first | rfl | exact absurd rfl (h _ _ _ _)

theorem item_rule {o i : AV} {ov iv : Value} {value slice : Expr} {k : KE} {Q : Value → Shared → Prop} (e : itemV σ o i k = true) (H : Here D c cn d ρ m fz news σ s.heap) (ho : VR (adr news) o ov) (hi : VR (adr news) i iv)
    (hs : ∀ a b c p, slice ≠ .Slice a b c p) (hQ : PostE D c cn d ρ m fz news k s Q) : wpAny D.M A (subscriptTail value slice ov iv) Q E s := by
  unfold itemV at e
  split at e
  · rename_i n
    obtain ⟨t, rfl⟩ := hi
    split at e
    · rename_i hb
      simp only [Bool.and_eq_true, decide_eq_true_eq] at hb
      split at e
      · rename_i j
        split at e
        · rename_i xs hg
          split at e
          · rename_i v hx
            obtain ⟨a, vs, nn, rfl, h1, h2, h3, h4⟩ := isList_of H hg ho
            obtain ⟨c', hc, hr⟩ := h4.get hx
            exact tail_any h3.typeIs slot_list_getitem.lookup (wpAny_getItem_list h3 hb.1 (by omega) (by simpa using hc) (hQ.here H (t := s.toks) hr e)) (isSlice_not hs _ _)
          · cases e
        · rename_i xs hg
          split at e
          · rename_i v hx
            obtain ⟨a, vs, rfl, h3, h4⟩ := isTup_of H hg ho
            obtain ⟨c', hc, hr⟩ := h4.get hx
            have lt := (List.getElem?_eq_some_iff.mp hc).1
            have hj : seqIndex? n (List.toArray vs).size = some n.toNat := seqIndex_of hb.1 (by rw [List.size_toArray]; omega)
            exact tail_any h3.typeIs slot_tuple_getitem.lookup (getItem_tuple h3 (by omega) (by omega) hj (by simpa using hc) (hQ.here H (t := s.toks) hr e)) (isSlice_not hs _ _)
          · cases e
        · cases e
      · cases e
    · cases e
  · cases e

theorem txt_from (x : Str) (n : Nat) : Txt.slice x (some (n : Int)) none = ⟨(x.cps.toList.drop n).toArray⟩ := by
  by_cases h : (n : Int) ≤ x.length
  · rw [slice_from_eq (by omega) h rfl]
    congr 1
    have : ((x.length : Int) - n).toNat = x.cps.toList.length - n := by
      have : x.length = x.cps.toList.length := by show x.cps.size = _; simp
      omega
    rw [this, Int.toNat_natCast, List.take_of_length_le (by rw [List.length_drop]; exact Nat.le_refl _)]
  · rw [slice_beyond (by omega), List.drop_of_length_le]
    · rfl
    · have : x.length = x.cps.toList.length := by show x.cps.size = _; simp
      omega

theorem all2_drop {α β : Type} {R : α → β → Prop} {l : List α} {m : List β} (x : All2 R l m) : ∀ n, All2 R (l.drop n) (m.drop n) := by
  induction x with
  | nil => intro n; simp; exact .nil
  | cons h r ih =>
    intro n
    cases n with
    | zero => exact .cons h r
    | succ n => simpa using ih n
theorem all2_take {α β : Type} {R : α → β → Prop} {l : List α} {m : List β} (x : All2 R l m) : ∀ n, All2 R (l.take n) (m.take n) := by
  induction x with
  | nil => intro n; simp; exact .nil
  | cons h r ih =>
    intro n
    cases n with
    | zero => exact .nil
    | succ n => simpa using .cons h (ih n)

theorem pick_from (l : List Value) (n : Nat) : kms_pick l (some (n : Int)) none = l.drop n := by
  unfold kms_pick
  have h1 : kms_lo (some (n : Int)) l.length = min n l.length := by
    unfold kms_lo
    simp only
    rw [if_neg (by omega)]; omega
  have h2 : kms_hi none l.length = l.length := rfl
  rw [h1, h2]
  by_cases h : n ≤ l.length
  · rw [Nat.min_eq_left h, List.take_of_length_le (by rw [List.length_drop]; exact Nat.le_refl _)]
  · rw [Nat.min_eq_right (by omega), List.drop_of_length_le (Nat.le_refl _), List.drop_of_length_le (by omega)]; simp
theorem pick_to (l : List Value) (n : Nat) : kms_pick l none (some (n : Int)) = l.take n := by
  unfold kms_pick
  have h1 : kms_hi (some (n : Int)) l.length = min n l.length := by
    unfold kms_hi
    simp only
    rw [if_neg (by omega)]; omega
  have h2 : kms_lo none l.length = 0 := rfl
  rw [h1, h2, List.drop_zero, Nat.sub_zero]
  by_cases h : n ≤ l.length
  · rw [Nat.min_eq_left h]
  · rw [Nat.min_eq_right (by omega), List.take_of_length_le (Nat.le_refl _), List.take_of_length_le (by omega)]

theorem list_slice {value slice : Expr} {l : Addr} {its : Array Value} {vl vu : Value} {lo hi : Option Int} {zs : List Value} {xs : List AV} {k : KE} {Q : Value → Shared → Prop} (H : Here D c cn d ρ m fz news σ s.heap) (hl : s.heap.IsList l its) (pl : IsPart vl lo) (pu : IsPart vu hi)
    (e : kms_pick its.toList lo hi = zs) (hv : All2 (VR (adr news)) xs zs) (hk : mk σ (.list xs) k = true) (hz : its.size ≤ sizeLine)
    (hs : ∀ o i, subscripted slice false o i = operate [i, o] (getItem o i)) (hQ : PostE D c cn d ρ m fz news k s Q) :
    wpAny D.M A (subscriptTail value slice (.ref l) (.ref s.heap.objs.size)) Q E { s with heap := s.heap.push { cls := .type "slice", data := .fields #[vl, vu, .none] } } := by
  refine tail_any (Heap.IsList.typeIs (s := { s with heap := s.heap.push { cls := .type "slice", data := .fields #[vl, vu, .none] } }) (hl.push _)) list_getitem_lookup
    (wpAny_getItem_list_slice (hl.push _) (Heap.IsSliceOf.new ..) pl pu .none (by simp) ?_ hz) (hs _ _)
  have N1 := News.push (H.F.push { cls := .type "slice", data := .fields #[vl, vu, .none] }) (H.S.nw.grown fun _ _ e => Heap.get?_push_of_some _ e) { cls := .type "list", data := .seq (slicePick its lo hi none) }
  rw [kms_pick_eq, e] at N1
  rw [kms_pick_eq, e]
  have fresh : ∀ q ∈ news ++ fz, q.1 ≠ (s.heap.push { cls := .type "slice", data := .fields #[vl, vu, .none] }).objs.size := by
    intro q hq
    rw [Heap.size_push]
    exact Nat.ne_of_lt (Nat.lt_succ_of_lt (Heap.lt_size (H.S.nw q hq).1))
  exact mk_at (s := s) (o := .list xs) (t := s.toks) H hk ⟨zs, _, rfl, hv⟩ ((H.F.push _).push _) N1 fresh hQ

theorem slice_from_rule {o : AV} {ov : Value} {n : Nat} {t : Tok} {value slice : Expr} {k : KE} {Q : Value → Shared → Prop} (e : sliceFrom σ o n k = true) (H : Here D c cn d ρ m fz news σ s.heap) (ho : VR (adr news) o ov)
    (hs : ∀ o i, subscripted slice false o i = operate [i, o] (getItem o i)) (hQ : PostE D c cn d ρ m fz news k s Q) :
    wpAny D.M A (subscriptTail value slice ov (.ref s.heap.objs.size)) Q E { s with heap := s.heap.push { cls := .type "slice", data := .fields #[.int (n : Int) t, .none, .none] } } := by
  unfold sliceFrom at e
  split at e
  · split at e
    · rename_i xs hg
      split at e
      · rename_i hb
        obtain ⟨a, vs, nn, rfl, h1, h2, h3, h4⟩ := isList_of H hg ho
        exact list_slice H h3 (.int _ _) .none (zs := vs.drop n) (by rw [pick_from]) (all2_drop h4 n) e (by rw [List.size_toArray, ← h4.length]; exact small_sz (Nat.lt_trans (blt_lt hb) (by decide))) hs hQ
      · cases e
    · cases e
  · rename_i x
    split at e
    · rename_i hb
      obtain ⟨u, rfl⟩ := ho
      have hlen : x.length ≤ sizeLine := by
        have : x.length = x.cps.toList.length := by show x.cps.size = _; simp
        rw [this]; exact small_sz (Nat.lt_trans (blt_lt hb) (by decide))
      obtain ⟨T, id, hl, hT, hg⟩ := SBH.sliceItem_sn (prog := D.prog) (w := D.w) (A := A) (E := E) (x := x) (t := u) (i := (n : Int)) (ui := t) (Q := Q) (P := fun h => Fr c.h₀ c.L h m ∧ News c.h₀ c.L h (news ++ fz)) keptFrN ⟨H.F, H.S.nw⟩ (fun h' t' k' a => by
        rw [txt_from]
        exact hQ (.str ⟨(x.cps.toList.drop n).toArray⟩) σ news _ h' k' (Ex.refl _) (H.grow a.1 a.2) ⟨t', rfl⟩ e) hlen
      exact tail_any hT hl hg (hs _ _)
    · cases e
  · cases e

theorem slice_to_rule {o i : AV} {ov iv : Value} {value slice : Expr} {k : KE} {Q : Value → Shared → Prop} (e : sliceTo σ o i k = true) (H : Here D c cn d ρ m fz news σ s.heap) (ho : VR (adr news) o ov) (hi : VR (adr news) i iv)
    (hs : ∀ o i, subscripted slice false o i = operate [i, o] (getItem o i)) (hQ : PostE D c cn d ρ m fz news k s Q) :
    wpAny D.M A (subscriptTail value slice ov (.ref s.heap.objs.size)) Q E { s with heap := s.heap.push { cls := .type "slice", data := .fields #[.none, iv, .none] } } := by
  unfold sliceTo at e
  split at e
  · rename_i j n
    split at e
    · rename_i xs hg
      split at e
      · rename_i hb
        simp only [Bool.and_eq_true, decide_eq_true_eq] at hb
        obtain ⟨a, vs, nn, rfl, h1, h2, h3, h4⟩ := isList_of H hg ho
        obtain ⟨t, rfl⟩ := hi
        have en : n = (n.toNat : Int) := by omega
        refine list_slice H h3 .none (.int _ _) (zs := vs.take n.toNat) ?_ (all2_take h4 _) e (by rw [List.size_toArray, ← h4.length]; exact small_sz (Nat.lt_trans (blt_lt hb.2) (by decide))) hs hQ
        rw [en]; exact pick_to _ _
      · cases e
    · cases e
  · cases e
end
end Mine
end

section
/-! comparisons, arithmetic -/
set_option maxRecDepth 100000
namespace Mine
open PySem PySem.W PySem.W.X PySem.Calls PyProof.Rows PySem.Spec

theorem seq_eq_beq (x y : Str) : (x.cps.toList == y.cps.toList) = seq x y := by
  cases h : seq x y with
  | true => rw [seq_iff.mp h]; exact beq_self_eq_true _
  | false => exact beq_eq_false_iff_ne.mpr fun e => seq_false h (by obtain ⟨⟨a⟩⟩ := x; obtain ⟨⟨b⟩⟩ := y; simp at e; rw [e])
theorem intsEq_dec : ∀ (a b : List Int), intsEq a b = decide (a = b)
  | [], [] => rfl
  | [], _ :: _ => rfl
  | _ :: _, [] => rfl
  | a :: l, b :: m => by
    unfold intsEq intEq
    rw [intsEq_dec l m]
    by_cases h : a = b <;> simp [h]
theorem strsEq_dec : ∀ (a b : List Str), strsEq a b = decide (a = b)
  | [], [] => rfl
  | [], _ :: _ => rfl
  | _ :: _, [] => rfl
  | a :: l, b :: m => by
    unfold strsEq
    rw [strsEq_dec l m]
    cases h : seq a b with
    | true => rw [seq_iff.mp h]; simp
    | false => simp [seq_false h]
theorem intsAre_of {as : As} : ∀ {xs : List AV} {vs : List Value} {ns : List Int}, intsOf xs = some ns → All2 (VR as) xs vs → IntsAre vs ns
  | [], _, ns, e, .nil => by cases e; exact .nil
  | a :: xs, _, ns, e, .cons h r => by
    cases a <;> first | (cases e; done) | skip
    unfold intsOf at e
    split at e
    · rename_i r' q; cases e; obtain ⟨t, rfl⟩ := h; exact .cons _ t (intsAre_of q r)
    · cases e
theorem strsAre_of {as : As} : ∀ {xs : List AV} {vs : List Value} {ns : List Str}, strsOf xs = some ns → All2 (VR as) xs vs → StrsAre vs ns
  | [], _, ns, e, .nil => by cases e; exact .nil
  | a :: xs, _, ns, e, .cons h r => by
    cases a <;> first | (cases e; done) | skip
    unfold strsOf at e
    split at e
    · rename_i r' q; cases e; obtain ⟨t, rfl⟩ := h; exact .cons _ t (strsAre_of q r)
    · cases e

theorem okCps_all : ∀ {l : List Nat}, okCps l = true → l.all (· < 0x110000) = true
  | [], _ => rfl
  | c :: r, h => by
    unfold okCps at h
    split at h
    · rename_i q
      have : c < 1114112 := blt_lt q
      rw [List.all_cons, okCps_all h, Bool.and_true]
      exact decide_eq_true this
    · cases h
theorem strOk_of {x : Str} (h : okCps x.cps.toList = true) : PyData.strOk x = true := by
  unfold PyData.strOk
  rw [← Array.all_toList]
  exact okCps_all h
theorem canLayAll0_strs : ∀ {ns : List Str}, okStrs ns = true → PyData.canLayAll0 (ns.map PyData.str) = true
  | [], _ => rfl
  | x :: r, h => by
    unfold okStrs at h
    split at h
    · rename_i q
      simp [PyData.canLayAll0, PyData.canLay0, canLayAll0_strs h, strOk_of q]
    · cases h
theorem depthAll_strs : ∀ ns : List Str, PyData.depthAll (ns.map PyData.str) = 0
  | [] => rfl
  | _ :: r => by simp [PyData.depthAll, PyData.depth, depthAll_strs r]
theorem shaped_strs {ns : List Str} (h : okStrs ns = true) : SeqAt.shaped (.list (ns.map PyData.str)) = true := by
  simp [SeqAt.shaped, PyData.canLay0, PyData.depth, canLayAll0_strs h, depthAll_strs]
theorem sameAll_strs : ∀ ns ms : List Str, PySem.Spec.sameAll (ns.map PyData.str) (ms.map PyData.str) = decide (ns = ms)
  | [], [] => by simp [PySem.Spec.sameAll]
  | [], _ :: _ => by simp [PySem.Spec.sameAll]
  | _ :: _, [] => by simp [PySem.Spec.sameAll]
  | a :: r, b :: t => by
    simp only [List.map_cons, PySem.Spec.sameAll, PySem.Spec.same, sameAll_strs r t]
    by_cases h : a = b <;> by_cases h' : r = t <;> simp [h, h']
theorem same_strs (ns ms : List Str) : PySem.Spec.same (.list (ns.map PyData.str)) (.list (ms.map PyData.str)) = decide (ns = ms) := by
  simp only [PySem.Spec.same]; exact sameAll_strs ns ms
theorem carried_strs : ∀ {vs : List Value} {ns : List Str}, StrsAre vs ns → CarriedAll vs (ns.map PyData.str)
  | _, _, .nil => .nil
  | _, _, .cons _ t r => .cons (.str _ t) (carried_strs r)
section
variable {prog : Program} {w : World} {A : Around} {E : Value → Shared → Prop} {s : Shared} {a b : Addr} {xs ys : List Value} {ns ms : List Str} {Q : Value → Shared → Prop}
theorem ne_strs (ha : s.heap.IsList a xs.toArray) (hb : s.heap.IsList b ys.toArray) (hi : StrsAre xs ns) (hj : StrsAre ys ms) (o1 : okStrs ns = true) (o2 : okStrs ms = true) (hu : A.units + 64 < cLine) (h : Q (.bool (!decide (ns = ms))) s) :
    wpAny (model prog w) A (compareOp .NotEq (.ref a) (.ref b)) Q E s :=
  ne_dataH_same (reads_newData ha (carried_strs hi)) (reads_newData hb (carried_strs hj)) (shaped_strs o1) (shaped_strs o2) hu (SeqAt.noMix_of_shape (.list .str) rfl _ _ (list_map_has fun _ => rfl) (list_map_has fun _ => rfl)) (by rw [same_strs]; exact h)
theorem eqGives_none (a : Str) (t : Tok) : MeetsSeq.EqGives (.str a t) .none false := fun prog w A E s Q h => by
  unfold eqBool
  refine wpAny_holding ?_
  rw [if_neg (show ¬ (Value.str a t == Value.none) = true by simp)]
  exact wpAny_bind (EqNone.eq_str_none (wpAny_truthy_bool h))
theorem in_none_strs {l : Addr} {vs : List Value} {ys : List Str} (hl : s.heap.IsList l vs.toArray) (hi : StrsAre vs ys) (h : Q (.bool false) s) : wpAny (model prog w) A (compareOp .In .none (.ref l)) Q E s := by
  have key : ∀ {vs : List Value} {ys : List Str}, StrsAre vs ys → ∀ y ∈ vs, ∃ a t, y = .str a t := by
    intro vs ys x
    induction x with
    | nil => intro y hy; exact nomatch hy
    | cons a t _ ih => intro y hy; rcases List.mem_cons.mp hy with rfl | hy; exact ⟨_, _, rfl⟩; exact ih y hy
  refine SeqInW.in_listW (fun _ => false) (fun y hy => ?_) hl ?_
  · obtain ⟨a, t, rfl⟩ := key hi y (by simpa using hy)
    exact eqGives_none a t
  · rw [← Array.any_toList]
    have : vs.toArray.toList.any (fun _ => false) = false := by simp
    rw [this]; exact h
theorem ne_bools {a b : Bool} (h : Q (.bool (a != b)) s) : wpAny (model prog w) A (compareOp .NotEq (.bool a) (.bool b)) Q E s := by
  exact ne_bool h
end

theorem digits_in (c : Nat) (h : (Nat.ble 46 c && Nat.ble c 57) = true) : Txt.contains nDigits ⟨#[c]⟩ = Nat.ble 48 c := by
  have h1 : 46 ≤ c := Nat.le_of_ble_eq_true (Bool.and_eq_true_iff.mp h).1
  have h2 : c ≤ 57 := Nat.le_of_ble_eq_true (Bool.and_eq_true_iff.mp h).2
  have : c = 46 ∨ c = 47 ∨ c = 48 ∨ c = 49 ∨ c = 50 ∨ c = 51 ∨ c = 52 ∨ c = 53 ∨ c = 54 ∨ c = 55 ∨ c = 56 ∨ c = 57 := by omega
  rcases this with rfl | rfl | rfl | rfl | rfl | rfl | rfl | rfl | rfl | rfl | rfl | rfl <;> decide +kernel
end Mine
end

section
set_option maxRecDepth 100000
namespace Mine
open PySem PySem.W PySem.W.X PySem.Calls PyProof.Rows PySem.Spec

section
variable {D : Wd} {c : Cx} {cn : Cn} {d : Nat} {ρ : Loc} {m : Str → Option Value} {fz news : News'} {σ : St} {s : Shared} {A : Around} {E : Value → Shared → Prop}

theorem vr_none {as : As} {a : AV} {v : Value} (h : VR as a v) (q : isNone a = false) : v ≠ .none := by
  cases a with
  | none => cases q
  | bool b => rw [h]; intro e; cases e
  | int i => obtain ⟨t, rfl⟩ := h; intro e; cases e
  | str i => obtain ⟨t, rfl⟩ := h; intro e; cases e
  | bi b => rw [h]; cases b <;> (intro e; cases e)
  | old a => rw [h]; intro e; cases e
  | own i => obtain ⟨a, _, rfl⟩ := h; intro e; cases e
theorem le_not (a b : Int) : (!intLt b a) = decide (a ≤ b) := by
  unfold intLt
  by_cases h : b < a
  · simp [h]
  · simp [h]; omega

theorem in_rule {a b : AV} {av bv : Value} {q : Bool} {Q : Value → Shared → Prop} (e : inV a b σ = some q) (H : Here D c cn d ρ m fz news σ s.heap) (ha : VR (adr news) a av) (hb : VR (adr news) b bv)
    (hQ : Q (.bool q) s) : wpAny D.M A (compareOp .In av bv) Q E s := by
  unfold inV at e
  split at e
  · rename_i x
    obtain ⟨t, rfl⟩ := ha
    split at e
    · rename_i j
      split at e
      · rename_i xs hg
        unfold strIn at e
        split at e
        · rename_i ys hs
          cases e
          obtain ⟨l, vs, rfl, h3, h4⟩ := isTup_of H hg hb
          exact in_tuple_strs h3 (strsAre_of hs h4) (by simpa only [seq_beq] using hQ)
        · cases e
      · rename_i xs hg
        unfold strIn at e
        split at e
        · rename_i ys hs
          cases e
          obtain ⟨l, vs, nn, rfl, h1, h2, h3, h4⟩ := isList_of H hg hb
          exact in_list_strs h3 (strsAre_of hs h4) (by simpa only [seq_beq] using hQ)
        · cases e
      · cases e
    · rename_i y
      obtain ⟨u, rfl⟩ := hb
      unfold charIn at e
      split at e
      · rename_i hd
        split at e
        · rename_i ch hc
          split at e
          · rename_i hr
            cases e
            have ex : x = ⟨#[ch]⟩ := by obtain ⟨⟨l⟩⟩ := x; simp at hc; subst hc; rfl
            have ey : y = nDigits := seq_iff.mp hd
            subst ex ey
            exact P.in_str (by show Q (.bool (Txt.contains _ _)) s; rw [digits_in ch hr]; exact hQ)
          · cases e
        · cases e
      · cases e
    · cases e
  · split at e
    · rename_i j
      split at e
      · rename_i xs hg
        split at e
        · rename_i ys hs
          cases e
          obtain ⟨l, vs, nn, rfl, h1, h2, h3, h4⟩ := isList_of H hg hb
          rw [show av = Value.none from ha]
          exact in_none_strs h3 (strsAre_of hs h4) hQ
        · cases e
      · cases e
    · cases e
  · cases e
theorem notIn_of_in {M : Model} {av bv : Value} {Q : Value → Shared → Prop} (h : wpAny M A (compareOp .In av bv) (fun v s' => ∃ b, v = .bool b ∧ Q (.bool (!b)) s') E s) : wpAny M A (compareOp .NotIn av bv) Q E s := by
  have e1 : compareOp .In av bv = (do return .bool (← contains bv av)) := rfl
  have e2 : compareOp .NotIn av bv = (do return .bool (!(← contains bv av))) := rfl
  rw [e1] at h
  rw [e2]
  refine wpAny_bind (fun Γ p hΓ => ?_)
  have h' := h Γ p hΓ
  rw [Sem.wp_bind'] at h'
  refine Sem.wp_mono M Γ _ (fun b p' s' hb => ?_) (fun _ _ _ x => x) p s h'
  obtain ⟨b', e, hq⟩ := hb
  cases e
  exact fun _ _ _ => hq

theorem cmp_rule {op : CmpOp} {a b : AV} {av bv : Value} {q : Bool} {Q : Value → Shared → Prop} (e : cmpV op a b σ = some q) (H : Here D c cn d ρ m fz news σ s.heap) (ha : VR (adr news) a av) (hb : VR (adr news) b bv)
    (hQ : Q (.bool q) s) : wpAny D.M c.A (compareOp op av bv) Q E s := by
  have hu : c.A.units + 64 < cLine := by have := H.ok.uni; show c.A.units + 64 < 9900; omega
  unfold cmpV at e
  split at e
  · split at e
    · cases e
      rw [show bv = Value.none from hb]
      cases q' : isNone a with
      | true =>
        cases a <;> first | (cases q'; done) | skip
        rw [show av = Value.none from ha]
        rw [q'] at hQ
        exact wpAny_is_self rfl hQ
      | false => rw [q'] at hQ; exact is_none_ne (vr_none ha q') hQ
    · cases e
  · split at e
    · cases e
      rw [show bv = Value.none from hb]
      cases q' : isNone a with
      | true =>
        cases a <;> first | (cases q'; done) | skip
        rw [show av = Value.none from ha]
        rw [q'] at hQ
        exact wpAny_isNot_self rfl hQ
      | false => rw [q'] at hQ; exact isnot_none_ne (vr_none ha q') hQ
    · cases e
  · split at e
    · cases e; obtain ⟨t, rfl⟩ := ha; obtain ⟨u, rfl⟩ := hb; exact P.lt_int hQ
    · cases e
  · split at e
    · cases e; obtain ⟨t, rfl⟩ := ha; obtain ⟨u, rfl⟩ := hb; rw [le_not] at hQ; exact P.le_int hQ
    · cases e
  · split at e
    · cases e; obtain ⟨t, rfl⟩ := ha; obtain ⟨u, rfl⟩ := hb; exact P.gt_int hQ
    · cases e
  · split at e
    · cases e; obtain ⟨t, rfl⟩ := ha; obtain ⟨u, rfl⟩ := hb; rw [le_not] at hQ; exact P.ge_int hQ
    · cases e
  · split at e
    · cases e; obtain ⟨t, rfl⟩ := ha; obtain ⟨u, rfl⟩ := hb; exact P.eq_int hQ
    · cases e; obtain ⟨t, rfl⟩ := ha; obtain ⟨u, rfl⟩ := hb; exact P.eq_str (by rw [seq_eq_beq]; exact hQ)
    · cases e
  · split at e
    · cases e; obtain ⟨t, rfl⟩ := ha; obtain ⟨u, rfl⟩ := hb; exact P.ne_int hQ
    · cases e; obtain ⟨t, rfl⟩ := ha; obtain ⟨u, rfl⟩ := hb; exact P.ne_str (by show Q (.bool (!(_ == _))) s; rw [seq_eq_beq]; exact hQ)
    · cases e; rw [show av = _ from ha, show bv = _ from hb]; exact ne_bools hQ
    · split at e
      · rename_i i j xs ys hg hg'
        obtain ⟨l, vs, nn, rfl, h1, h2, h3, h4⟩ := isList_of H hg ha
        obtain ⟨l', vs', nn', rfl, h1', h2', h3', h4'⟩ := isList_of H hg' hb
        unfold neList at e
        split at e
        · rename_i ns q1
          split at e
          · rename_i ms q2
            cases e
            exact ke_ne_ints h3 h3' (intsAre_of q1 h4) (intsAre_of q2 h4') hu (by rw [← intsEq_dec]; exact hQ)
          · cases e
        · split at e
          · rename_i ns q1
            split at e
            · rename_i ms q2
              split at e
              · rename_i o
                obtain ⟨o1, o2⟩ := Bool.and_eq_true_iff.mp o
                cases e
                exact ne_strs h3 h3' (strsAre_of q1 h4) (strsAre_of q2 h4') o1 o2 hu (by rw [← strsEq_dec]; exact hQ)
              · cases e
            · cases e
          · cases e
      · cases e
    · cases e
  · exact in_rule e H ha hb hQ
  · split at e
    · rename_i b' q1
      cases e
      exact notIn_of_in (in_rule q1 H ha hb ⟨_, rfl, hQ⟩)
    · cases e

theorem sz_str (x : Str) : x.length = x.cps.toList.length := by show x.cps.size = _; simp
theorem bin_rule {op : Operator} {a b : AV} {av bv : Value} {k : KE} {Q : Value → Shared → Prop} (e : binV op a b σ k = true) (H : Here D c cn d ρ m fz news σ s.heap) (ha : VR (adr news) a av) (hb : VR (adr news) b bv)
    (hQ : PostE D c cn d ρ m fz news k s Q) : wpAny D.M A (binaryOp op av bv) Q E s := by
  unfold binV at e
  split at e
  · split at e
    · obtain ⟨t, rfl⟩ := ha; obtain ⟨u, rfl⟩ := hb
      exact P.add_int (hQ.here H (t := s.toks + 1) (b := .int _) ⟨_, rfl⟩ e)
    · rename_i x y
      obtain ⟨t, rfl⟩ := ha; obtain ⟨u, rfl⟩ := hb
      split at e
      · rename_i hl
        have hl' := blt_lt hl
        refine P.add_str ?_
        by_cases hx : (x.length == 0) = true
        · rw [if_pos hx]
          have hx0 : x.cps.toList = [] := List.length_eq_zero_iff.mp (by rw [← sz_str]; exact beq_iff_eq.mp hx)
          rw [hx0, List.nil_append] at e
          exact hQ.here H (t := s.toks) (b := .str y) ⟨u, rfl⟩ (by obtain ⟨⟨y'⟩⟩ := y; exact e)
        · rw [if_neg hx]
          by_cases hy : (y.length == 0) = true
          · rw [if_pos hy]
            have hy0 : y.cps.toList = [] := List.length_eq_zero_iff.mp (by rw [← sz_str]; exact beq_iff_eq.mp hy)
            rw [hy0, List.append_nil] at e
            exact hQ.here H (t := s.toks) (b := .str x) ⟨t, rfl⟩ (by obtain ⟨⟨y'⟩⟩ := x; exact e)
          · rw [if_neg hy]
            have exy : x ++ y = ⟨(x.cps.toList ++ y.cps.toList).toArray⟩ := by
              obtain ⟨⟨x'⟩⟩ := x; obtain ⟨⟨y'⟩⟩ := y
              show (⟨_⟩ : Str) = _
              congr 1
              simp
            have hsz : (x ++ y).length ≤ sizeLine := by
              rw [exy, sz_str]
              simp only [List.length_append]
              exact small_sz (Nat.lt_trans hl' (by decide))
            first
              | exact ⟨hsz, hQ.here H (t := s.toks + 1) (b := .str _) ⟨_, by rw [exy]⟩ e⟩
              | exact ⟨hQ.here H (t := s.toks + 1) (b := .str _) ⟨_, by rw [exy]⟩ e, hsz⟩
              | (show Q _ _; exact hQ.here H (t := s.toks + 1) (b := .str _) ⟨_, by rw [exy]⟩ e)
      · cases e
    · split at e
      · rename_i i j xs ys hg hg'
        split at e
        · rename_i hl
          have hl' := blt_lt hl
          obtain ⟨l, vs, nn, rfl, h1, h2, h3, h4⟩ := isList_of H hg ha
          obtain ⟨l', vs', nn', rfl, h1', h2', h3', h4'⟩ := isList_of H hg' hb
          refine add_arrays H.F H.S.nw h3 h3' (fun h' F' N' => mk_at (s := s) (o := .list (xs ++ ys)) (t := s.toks) H e ⟨vs ++ vs', _, rfl, h4.append h4'⟩ F' N' (fresh_top H.S.nw) hQ) ?_
          rw [List.size_toArray, List.size_toArray, ← h4.length, ← h4'.length]
          exact small_sz (Nat.lt_trans hl' (by decide))
        · cases e
      · cases e
    · cases e
  · split at e
    · obtain ⟨t, rfl⟩ := ha; obtain ⟨u, rfl⟩ := hb
      exact P.sub_int (hQ.here H (t := s.toks + 1) (b := .int _) ⟨_, rfl⟩ e)
    · cases e
  · split at e
    · rename_i i n
      obtain ⟨u, rfl⟩ := hb
      split at e
      · rename_i v hg
        split at e
        · rename_i hr
          simp only [Bool.and_eq_true, decide_eq_true_eq] at hr
          obtain ⟨l, vs, nn, rfl, h1, h2, h3, h4⟩ := isList_of H hg ha
          cases h4 with
          | cons hv r =>
            cases r
            rename_i vv
            have ev : ∀ n : Nat, List.foldl (fun (x1 x2 : Array Value) => x1 ++ x2) #[] (List.replicate n #[vv]) = (List.replicate n vv).toArray := by
              have gen : ∀ (n : Nat) (acc : List Value), List.foldl (fun (x1 x2 : Array Value) => x1 ++ x2) acc.toArray (List.replicate n #[vv]) = (acc ++ List.replicate n vv).toArray := by
                intro n
                induction n with
                | zero => intro acc; simp
                | succ n ih =>
                  intro acc
                  rw [List.replicate_succ, List.foldl_cons]
                  have : acc.toArray ++ #[vv] = (acc ++ [vv]).toArray := by simp
                  rw [this, ih, List.replicate_succ]; simp
              intro n; exact gen n []
            have ar : ∀ n : Nat, All2 (VR (adr news)) (List.replicate n v) (List.replicate n vv) := by
              intro n
              induction n with
              | zero => exact .nil
              | succ n ih => rw [List.replicate_succ, List.replicate_succ]; exact .cons hv ih
            refine mul_list (items := #[vv]) H.F H.S.nw h2 (by omega) (by omega) (by show 1 * n.toNat ≤ 2 ^ 24; omega) (fun h' F' N' => ?_)
            rw [if_neg (by simp), ev] at N'
            exact mk_at (s := s) (o := .list (List.replicate n.toNat v)) (t := s.toks) H e ⟨_, _, rfl, ar _⟩ F' N' (fresh_top H.S.nw) hQ
        · cases e
      · cases e
    · cases e
  · cases e
end
end Mine
end

section
/-! built-ins called, methods of built-in types, stores into dicts -/
set_option maxRecDepth 100000
namespace Mine
open PySem PySem.W PySem.W.X PySem.Calls PyProof.Rows PySem.Spec

noncomputable def IsnOk (D : Wd) : Prop := ∀ a b, memN a b D.G.isn = true → isnB D.K a b = true

section
variable {D : Wd} {c : Cx} {cn : Cn} {d : Nat} {ρ : Loc} {m : Str → Option Value} {fz news : News'} {σ : St} {s : Shared} {A : Around} {E : Value → Shared → Prop}

theorem listOf_at (H : Here D c cn d ρ m fz news σ s.heap) {o : AV} {i : Nat} {xs : List AV} {v : Value} (e : listAt σ o = some (i, xs)) (hv : VR (adr news) o v) :
    σ.get i = some (.list xs) ∧ ∃ a vs n, v = .ref a ∧ news[i]? = some (a, ({ cls := .type "list", data := .seq (List.toArray vs) n } : Obj)) ∧ s.heap.get? a = some ({ cls := .type "list", data := .seq (List.toArray vs) n } : Obj) ∧ s.heap.IsList a (List.toArray vs) ∧ All2 (VR (adr news)) xs vs := by
  unfold listAt at e
  split at e
  · split at e
    · rename_i q; cases e; exact ⟨q, isList_of H q hv⟩
    · cases e
  · cases e
/-- a dict of strs, as the library sees it -/
noncomputable def KV (as : As) (x : Str × AV) (y : Str × Value) : Prop := x.1 = y.1 ∧ VR as x.2 y.2
theorem kv_of {prog : Program} {w : World} {as : As} {es : List (Str × AV)} {l : List DictEntry} (H : All2 (ER w.params as) es l) : ∃ kvs, All2 (KV as) es kvs ∧ Pairs (PySem.strKind prog w) l kvs ∧ KeysOf (PySem.strKind prog w) l.toArray := by
  induction H with
  | nil => exact ⟨[], .nil, .nil, fun e he => by simp at he⟩
  | @cons xa e es l h r ih =>
    obtain ⟨x, a⟩ := xa
    obtain ⟨h1, ⟨t, h2⟩, h3⟩ := h
    replace h1 : e.hash = PyData.keyHash w.params x := h1
    replace h2 : e.key = .str x t := h2
    replace h3 : VR as a e.val := h3
    obtain ⟨kvs, k1, k2, k3⟩ := ih
    have is : (PySem.strKind prog w).is x e.key = true := by rw [h2]; show (x == x) = true; exact beq_self_eq_true x
    refine ⟨(x, e.val) :: kvs, .cons ⟨rfl, h3⟩ k1, .cons is rfl k2, fun e' he => ?_⟩
    rcases List.mem_cons.mp (by simpa using he) with rfl | he
    · exact ⟨x, is, h1⟩
    · exact k3 e' (by simpa using he)
theorem kv_keys {as : As} {es : List (Str × AV)} {kvs : List (Str × Value)} (H : All2 (KV as) es kvs) : kvs.map (·.1) = es.map (·.1) := by
  induction H with
  | nil => rfl
  | cons h r ih => rw [List.map_cons, List.map_cons, ih, h.1]
theorem kv_look {as : As} {x : Str} {es : List (Str × AV)} {kvs : List (Str × Value)} (H : All2 (KV as) es kvs) :
    (∀ a, lk es x = some a → ∃ v, valueAt kvs x = some v ∧ VR as a v) ∧ (lk es x = none → valueAt kvs x = none) := by
  induction H with
  | nil => exact ⟨fun _ e => (by cases e), fun _ => rfl⟩
  | @cons ya yv es kvs h r ih =>
    obtain ⟨y, a⟩ := ya
    obtain ⟨y', v⟩ := yv
    obtain ⟨h1, h2⟩ := h
    have h1 : y = y' := h1
    subst h1
    replace h2 : VR as a v := h2
    obtain ⟨i1, i2⟩ := ih
    rw [lk_cons]
    unfold valueAt
    rw [List.find?_cons]
    cases q : seq y x with
    | true => rw [seq_iff.mp q]; simp only [cond_true, decide_true, Option.map_some]; exact ⟨fun a e => by cases e; exact ⟨_, rfl, h2⟩, fun e => by cases e⟩
    | false =>
      have : decide (y = x) = false := decide_eq_false (seq_false q)
      simp only [cond_false, this]
      exact ⟨i1, i2⟩
theorem kv_stored {as : As} {x : Str} {a : AV} {v : Value} (hv : VR as a v) {es : List (Str × AV)} {kvs : List (Str × Value)} (H : All2 (KV as) es kvs) (nd : (es.map (·.1)).Nodup) : All2 (KV as) (put es x a) (stored kvs x v) := by
  induction H with
  | nil => exact .cons ⟨rfl, hv⟩ .nil
  | @cons yb yu es kvs h r ih =>
    obtain ⟨y, b⟩ := yb
    obtain ⟨y', u⟩ := yu
    obtain ⟨h1, h2⟩ := h
    have h1 : y = y' := h1
    subst h1
    replace h2 : VR as b u := h2
    rw [List.map_cons, List.nodup_cons] at nd
    replace ih := ih nd.2
    rw [put_cons]
    unfold stored
    rw [List.any_cons]
    cases q : seq y x with
    | true =>
      have hy : y = x := seq_iff.mp q
      subst hy
      simp only [decide_true, Bool.true_or, if_true, cond_true, List.map_cons]
      refine .cons ⟨rfl, hv⟩ ?_
      have : kvs.map (fun kv => if kv.1 = y then (kv.1, v) else kv) = kvs := by
        have key : ∀ kv ∈ kvs, (if kv.1 = y then (kv.1, v) else kv) = kv := fun kv hk => by
          rw [if_neg]
          intro e
          apply nd.1
          rw [← kv_keys r, ← e]
          exact List.mem_map_of_mem hk
        exact (List.map_congr_left key).trans (List.map_id _)
      rw [this]; exact r
    | false =>
      have hy : decide (y = x) = false := decide_eq_false (seq_false q)
      rw [hy, Bool.false_or]
      simp only [cond_false]
      unfold stored at ih
      by_cases hany : kvs.any (fun kv => decide (kv.1 = x)) = true
      · rw [if_pos hany] at ih ⊢
        rw [List.map_cons, if_neg (of_decide_eq_false hy)]
        exact .cons ⟨rfl, h2⟩ ih
      · rw [if_neg hany] at ih ⊢
        exact .cons ⟨rfl, h2⟩ ih
theorem dict_is {prog : Program} {w : World} {as : As} {es : List (Str × AV)} {l : List DictEntry} {n : Nat} (h : All2 (ER w.params as) es l) (nd : (es.map (·.1)).Nodup) : ∃ kvs, All2 (KV as) es kvs ∧ (dictOf l n).IsDictOf (PySem.strKind prog w) kvs := by
  obtain ⟨kvs, k1, k2, k3⟩ := kv_of (prog := prog) h
  exact ⟨kvs, k1, l.toArray, n, ⟨rfl, rfl, rfl⟩, rfl, k3, by simpa using k2, by rw [kv_keys k1]; exact nd⟩
theorem kv_back {prog : Program} {w : World} {as : As} {es : List (Str × AV)} {kvs : List (Str × Value)} {l : List DictEntry} (H : All2 (KV as) es kvs) (Hp : Pairs (PySem.strKind prog w) l kvs) (hk : ∀ e ∈ l, ∃ k, (PySem.strKind prog w).is k e.key = true ∧ e.hash = (PySem.strKind prog w).hash k) : All2 (ER w.params as) es l := by
  induction H generalizing l with
  | nil => cases Hp; exact .nil
  | @cons xa yv es kvs h r ih =>
    obtain ⟨x, a⟩ := xa
    obtain ⟨y, v⟩ := yv
    obtain ⟨h1, h2⟩ := h
    cases Hp with
    | @cons e _ l _ p1 p2 p3 =>
    have h1 : x = y := h1
    subst h1
    obtain ⟨t, ht⟩ := Value.isStrOf_shape (show Value.isStrOf x e.key = true from p1)
    obtain ⟨k, k1, k2⟩ := hk e (.head _)
    have hkk : k = x := (PySem.strKind prog w).inj _ _ _ k1 p1
    subst hkk
    refine .cons ⟨k2, ⟨t, ht⟩, ?_⟩ (ih p3 fun e' he => hk e' (.tail _ he))
    have p2' : e.val = v := p2
    rw [p2']; exact h2
theorem dict_of {prog : Program} {w : World} {as : As} {es : List (Str × AV)} {kvs : List (Str × Value)} {o : Obj} (h : All2 (KV as) es kvs) (hd : o.IsDictOf (PySem.strKind prog w) kvs) (nd : (es.map (·.1)).Nodup) : ∃ l n, o = dictOf l n ∧ All2 (ER w.params as) es l ∧ (es.map (·.1)).Nodup := by
  obtain ⟨es', ep, ⟨e1, e2, e3⟩, e4, e5, e6, e7⟩ := hd
  refine ⟨es'.toList, ep, ?_, kv_back h e6 (fun e he => e5 e (by simpa using he)), nd⟩
  obtain ⟨oc, od, oda, os⟩ := o
  simp only at e1 e2 e3 e4
  subst e1 e2 e3 e4
  simp [dictOf]

theorem not_sys (O : D.Ok) (H : Here D c cn d ρ m fz news σ s.heap) {i : Nat} {a : Addr} {ob : Obj} (h : news[i]? = some (a, ob)) : (a == sysModules) = false := by
  refine beq_eq_false_iff_ne.mpr fun e => ?_
  obtain ⟨o, ho⟩ := Option.isSome_iff_exists.mp O.sys
  have h1 := H.ok.X _ _ ho
  have h2 := (H.S.nw (a, ob) (List.mem_append_left _ (List.mem_of_getElem? h))).2.2
  rw [show (a, ob).1 = sysModules from e, h1] at h2
  cases h2

theorem store_rule (O : D.Ok) {o i u : AV} {k : St → Bool} {ov iv uv : Value} {Q : Unit → Shared → Prop} (e : storeV σ o i u k = true) (H : Here D c cn d ρ m fz news σ s.heap) (ho : VR (adr news) o ov) (hi : VR (adr news) i iv) (hu : VR (adr news) u uv)
    (hQ : ∀ σ' news' h t, Ex (adr news) (adr news') → Here D c cn d ρ m fz news' σ' h → k σ' = true → Q () (up s h t)) : wpAny D.M A (setItem ov iv uv) Q E s := by
  unfold storeV at e
  split at e
  · rename_i j
    split at e
    · rename_i x
      obtain ⟨t, rfl⟩ := hi
      split at e
      · rename_i es hg
        split at e
        · rename_i hz
          obtain ⟨a, ob, rfl, h1, h2, l, n, rfl, h3, nd⟩ := H.S.atV hg ho
          obtain ⟨kvs, k1, k2⟩ := dict_is (prog := D.prog) (w := D.w) (n := n) h3 nd
          have hlen : kvs.length = es.length := by
            have := congrArg List.length (kv_keys k1); simpa using this
          have hz' := blt_lt hz
          have hm := H.S.nw (a, dictOf l n) (List.mem_append_left _ (List.mem_of_getElem? h1))
          refine wpAny_setItem_pairs (knd := PySem.strKind D.prog D.w) (k := x) (hsz := by rw [hlen]; exact small_sz (by omega)) (by show (x == x) = true; exact beq_self_eq_true x) (Heap.dictOf_iff.mpr ⟨_, hm.1, k2⟩) fun h' hmm hs => ?_
          obtain ⟨o', ho', hd'⟩ := Heap.dictOf_iff.mp hmm
          obtain ⟨F', N'⟩ := news_same H h1 hs ho'
          refine hQ _ (news.set j (a, o')) h' _ (by rw [adr_set h1]; exact Ex.refl _) (H.set hg h1 ?_ F' N') e
          exact dict_of (kv_stored hu k1 nd) hd' (put_nodup _ _ _ nd)
        · cases e
      · cases e
    · cases e
  · cases e
end
end Mine
end

section
set_option maxRecDepth 100000
namespace Mine
open PySem PySem.W PySem.W.X PySem.Calls PyProof.Rows PySem.Spec

section
variable {D : Wd} {c : Cx} {cn : Cn} {d : Nat} {ρ : Loc} {m : Str → Option Value} {fz news : News'} {σ : St} {s : Shared} {A : Around} {E : Value → Shared → Prop}

theorem all2_one {as : As} {a : AV} {vs : List Value} (h : All2 (VR as) [a] vs) : ∃ v, vs = [v] ∧ VR as a v := by
  cases h with
  | cons h r => cases r; exact ⟨_, rfl, h⟩
theorem all2_two {as : As} {a b : AV} {vs : List Value} (h : All2 (VR as) [a, b] vs) : ∃ v u, vs = [v, u] ∧ VR as a v ∧ VR as b u := by
  cases h with
  | cons h r => cases r with | cons h' r' => cases r'; exact ⟨_, _, rfl, h, h'⟩
theorem kl_last_some : ∀ {l : List Value} {y : Value}, l.getLast? = some y → kl_last l = some (l.dropLast, y)
  | [], y, e => by cases e
  | [x], y, e => by cases e; rfl
  | x :: z :: r, y, e => by
    have ih := kl_last_some (l := z :: r) (y := y) (by simpa using e)
    unfold kl_last
    rw [ih]
    rfl
theorem all2_last {as : As} {xs : List AV} {vs : List Value} {a : AV} (H : All2 (VR as) xs vs) (e : xs.getLast? = some a) : ∃ v, vs.getLast? = some v ∧ VR as a v ∧ All2 (VR as) xs.dropLast vs.dropLast := by
  induction H with
  | nil => cases e
  | cons h q ih =>
    cases q with
    | nil => cases e; exact ⟨_, rfl, h, .nil⟩
    | cons h' q' =>
      obtain ⟨l, h1, h2, h3⟩ := ih (by rw [List.getLast?_cons_cons] at e; exact e)
      exact ⟨l, by rw [List.getLast?_cons_cons]; exact h1, h2, .cons h h3⟩

theorem callB_rule (O : D.Ok) (I : IsnOk D) {f : Bi} {vs : List AV} {vals : List Value} {k : KE} {Q : Value → Shared → Prop} (e : callB D.G.isn f vs σ k = true) (H : Here D c cn d ρ m fz news σ s.heap) (hv : All2 (VR (adr news)) vs vals)
    (hQ : PostE D c cn d ρ m fz news k s Q) : wpAny D.M A (call f.val vals) Q E s := by
  unfold callB at e
  split at e
  · split at e
    · rename_i i
      obtain ⟨v, rfl, h⟩ := all2_one hv
      split at e
      · rename_i xs hg
        split at e
        · rename_i hb
          obtain ⟨l, ws, nn, rfl, h1, h2, h3, h4⟩ := isList_of H hg h
          have hl := blt_lt hb
          have hs : ws.toArray.size = xs.length := by rw [List.size_toArray, h4.length]
          exact call_len_list h3 (by rw [hs]; omega) (hQ.here H (t := s.toks + 1 + 1) (b := .int _) ⟨_, by rw [hs]; rfl⟩ e)
        · cases e
      · rename_i xs hg
        split at e
        · rename_i hb
          obtain ⟨l, ws, rfl, h3, h4⟩ := isTup_of H hg h
          have hl := blt_lt hb
          have hs : ws.toArray.size = xs.length := by rw [List.size_toArray, h4.length]
          exact len_tuple h3 (by rw [hs]; omega) (hQ.here H (t := s.toks + 1 + 1) (b := .int _) ⟨_, by rw [hs]; rfl⟩ e)
        · cases e
      · cases e
    · rename_i x
      obtain ⟨v, rfl, t, rfl⟩ := all2_one hv
      split at e
      · rename_i hb
        have hl := blt_lt hb
        exact len_writK x.cps.toList.length (sz_str x) (by omega) (hQ.here H (t := s.toks + 1 + 1) (b := .int _) ⟨_, rfl⟩ e)
      · cases e
    · cases e
  · split at e
    · rename_i i C
      obtain ⟨v, u, rfl, h, h'⟩ := all2_two hv
      split at e
      · rename_i Dd dd hg
        obtain ⟨x, ob, rfl, h1, h2, dx, h3, rfl⟩ := H.S.atV hg h
        obtain rfl : u = .ref C := h'
        split at e
        · rename_i hb
          obtain rfl : Dd = C := Nat.eq_of_beq_eq_true hb
          refine isi_call H.X (t := .ref Dd) (fun M => (Looks.ld (part := none) h2).andThen .now) ?_ (by intro q; cases q) (hQ.here H (t := s.toks) (b := .bool true) rfl e)
          unfold isIn
          rw [show (Value.ref Dd == Value.ref Dd) = true from beq_self_eq_true _, Bool.true_or]
        · split at e
          · rename_i hn
            have q := I _ _ hn
            unfold isnB at q
            simp only [Bool.and_eq_true, beq_iff_eq] at q
            obtain ⟨⟨⟨⟨⟨⟨q1, q2⟩, q3⟩, q4⟩, q5⟩, q6⟩, q7⟩ := q
            cases hdd : s.heap.get? dx with
            | some od => exact kin_callC H.X ⟨h2, rfl, rfl, hdd⟩ q1 q2 q3 q4 q5 q6 q7 (hQ.here H (t := s.toks + 1) (b := .bool false) rfl e)
            | none =>
              have hm : (adr news)[dd]? = some dx := h3
              obtain ⟨p, hp, hpe⟩ := List.mem_map.mp (List.mem_of_getElem? hm)
              have := (H.S.nw p (List.mem_append_left _ hp)).1
              rw [hpe, hdd] at this; cases this
          · cases e
      · cases e
    · cases e
  · split at e
    · rename_i i
      obtain ⟨v, rfl, h⟩ := all2_one hv
      split at e
      · rename_i xs hg
        split at e
        · rename_i hb
          obtain ⟨l, ws, nn, rfl, h1, h2, h3, h4⟩ := isList_of H hg h
          refine list_copyK H.F H.S.nw h3 (fun Da cc h' F' N' hlt => mk_at (s := s) (o := .list xs) (t := s.toks) H e ⟨ws, _, rfl, h4⟩ F' N' (fun q hq => Nat.ne_of_lt (hlt q hq)) hQ) ?_
          rw [List.size_toArray, ← h4.length]
          exact small_sz (Nat.lt_trans (blt_lt hb) (by decide))
        · cases e
      · cases e
    · cases e
  · split at e
    · rename_i i
      obtain ⟨v, rfl, t, rfl⟩ := all2_one hv
      split at e
      · rename_i hr
        simp only [Bool.and_eq_true, decide_eq_true_eq] at hr
        have key : ∀ n : Nat, n < 10 → (toString (n : Int) : Str) = ⟨#[48 + n]⟩ := by decide +kernel
        have key2 : ∀ n : Nat, n < 10 → (n : Int).natAbs.log2 < 1920 := by decide +kernel
        obtain ⟨n, rfl⟩ : ∃ n : Nat, i = (n : Int) := ⟨i.toNat, by omega⟩
        have hn : n < 10 := by omega
        refine P.str_of_int (key2 n hn) ?_
        rw [key n hn]
        exact hQ.here H (t := s.toks + 1) (b := .str ⟨#[48 + n]⟩) ⟨_, rfl⟩ e
      · cases e
    · cases e
  · split at e
    · rename_i x
      obtain ⟨v, rfl, t, rfl⟩ := all2_one hv
      split at e
      · rename_i ch hc
        split at e
        · rename_i hr
          have h1 : 48 ≤ ch := Nat.le_of_ble_eq_true (Bool.and_eq_true_iff.mp hr).1
          have h2 : ch ≤ 57 := Nat.le_of_ble_eq_true (Bool.and_eq_true_iff.mp hr).2
          have ex : x = ⟨#[ch]⟩ := by obtain ⟨⟨l⟩⟩ := x; simp at hc; subst hc; rfl
          subst ex
          have key : ∀ n : Nat, n < 58 → 48 ≤ n → PySem.intText? ⟨#[n]⟩ = some ((n - 48 : Nat) : Int) := by decide +kernel
          refine KIN.call_text (key ch (by omega) h1) (by show (#[ch] : Array Nat).size ≤ 640; simp) (hQ.here H (t := s.toks + 1) (b := .int _) ⟨_, rfl⟩ e)
        · cases e
      · cases e
    · cases e
  · cases e

noncomputable def mtName : Mt → String
  | .append => "list.append"
  | .pop => "list.pop"
  | .get => "dict.get"
  | .startswith => "str.startswith"
theorem callM_rule (O : D.Ok) {mt : Mt} {o : AV} {ov : Value} {vs : List AV} {vals : List Value} {k : KE} {Q : Value → Shared → Prop} (e : callM mt o vs σ k = true) (H : Here D c cn d ρ m fz news σ s.heap) (ho : VR (adr news) o ov) (hv : All2 (VR (adr news)) vs vals)
    (hQ : PostE D c cn d ρ m fz news k s Q) : wpAny D.M A (call (.builtin (mtName mt)) (ov :: vals)) Q E s := by
  unfold callM at e
  cases mt <;> simp only at e
  · split at e
    · rename_i i xs hl
      obtain ⟨hg, l, ws, nn, rfl, h1, h2, h3, h4⟩ := listOf_at H hl ho
      split at e
      · rename_i v
        obtain ⟨u, rfl, hu⟩ := all2_one hv
        split at e
        · rename_i hb
          refine append_K H.F H.S.nw (H.S.upd h1) (fun h' F' N' => ?_) ?_
          · have : ws.toArray.push u = (ws ++ [u]).toArray := by simp
            rw [this] at N'
            exact hQ .none _ _ _ h' s.toks (by rw [adr_set h1]; exact Ex.refl _) (H.set hg h1 (show ORD D (adr news) (.list (xs ++ [v])) _ from ⟨ws ++ [u], nn + 1, rfl, h4.append (.cons hu .nil)⟩) F' N') rfl e
          · rw [List.size_toArray, ← h4.length]; exact small_sz (Nat.lt_trans (blt_lt hb) (by decide))
        · cases e
      · cases e
    · cases e
  · split at e
    · rename_i i xs hl
      obtain ⟨hg, l, ws, nn, rfl, h1, h2, h3, h4⟩ := listOf_at H hl ho
      split at e
      · cases hv
        split at e
        · rename_i hb
          split at e
          · rename_i v hv
            obtain ⟨u, g1, g2, g3⟩ := all2_last h4 hv
            refine kl_pop H.F H.S.nw (its := ws.toArray) (p := ws.dropLast) (y := u) (by simpa using kl_last_some g1) (H.S.upd h1) ?_ (fun h' F' N' => ?_)
            · show ws.toArray.toList.length ≤ sizeLine
              rw [← h4.length]; exact small_sz (Nat.lt_trans (blt_lt hb) (by decide))
            · exact hQ v _ _ _ h' s.toks (by rw [adr_set h1]; exact Ex.refl _) (H.set hg h1 (show ORD D (adr news) (.list xs.dropLast) _ from ⟨ws.dropLast, nn + 1, rfl, g3⟩) F' N') (by rw [adr_set h1]; exact g2) e
          · cases e
        · cases e
      · cases e
    · cases e
  · split at e
    · rename_i i es hl
      unfold dictAt at hl
      split at hl
      · rename_i j
        split at hl
        · rename_i es' hg
          cases hl
          obtain ⟨a, ob, rfl, h1, h2, l, n, rfl, h3, nd⟩ := H.S.atV hg ho
          obtain ⟨kvs, k1, k2⟩ := dict_is (prog := D.prog) (w := D.w) (n := n) h3 nd
          split at e
          · rename_i x
            obtain ⟨u, rfl, t, rfl⟩ := all2_one hv
            obtain ⟨q1, q2⟩ := kv_look (x := x) k1
            have kis : (PySem.strKind D.prog D.w).is x (.str x t) = true := by show (x == x) = true; exact beq_self_eq_true x
            cases hx : lk es x with
            | some b =>
              rw [hx] at e
              obtain ⟨v, g1, g2⟩ := q1 b hx
              exact kdg_get1 H.S.nw (List.mem_append_left _ (List.mem_of_getElem? h1)) k2 (not_sys O H h1) kis _ g1 (hQ.here H (t := s.toks + 1) g2 e)
            | none =>
              rw [hx] at e
              exact kdg_get1 H.S.nw (List.mem_append_left _ (List.mem_of_getElem? h1)) k2 (not_sys O H h1) kis _ (q2 hx) (hQ.here H (t := s.toks + 1) (b := .none) rfl e)
          · cases e
        · cases hl
      · cases hl
    · cases e
  · split at e
    · rename_i x
      obtain ⟨t, rfl⟩ := ho
      split at e
      · rename_i y
        obtain ⟨u, rfl, t', rfl⟩ := all2_one hv
        refine SC.startswith (hQ.here H (t := s.toks) (b := .bool _) ?_ e)
        show Value.bool _ = Value.bool _
        congr 1
        unfold Txt.startswith
        rw [StrLaws.subAt_eq, List.drop_zero, sz_str y, sz_str x, Nat.zero_add]
        by_cases q : y.cps.toList.length ≤ x.cps.toList.length
        · rw [decide_eq_true q, Bool.true_and]
          cases z : neq (x.cps.toList.take y.cps.toList.length) y.cps.toList with
          | true => rw [neq_iff.mp z]; exact beq_self_eq_true _
          | false => exact beq_eq_false_iff_ne.mpr fun w => by rw [neq_iff.mpr w] at z; cases z
        · rw [decide_eq_false q, Bool.false_and]
          cases z : neq (x.cps.toList.take y.cps.toList.length) y.cps.toList with
          | true =>
            have := congrArg List.length (neq_iff.mp z)
            rw [List.length_take] at this
            omega
          | false => rfl
      · cases e
    · cases e
end
end Mine
end

section
/-! the run of an expression -/
set_option maxRecDepth 100000
namespace Mine
open PySem PySem.W PySem.W.X PySem.Calls PyProof.Rows PySem.Spec

section
variable {D : Wd} {c : Cx} {cn : Cn} {d : Nat} {ρ : Loc} {m : Str → Option Value} {fz news news' : News'} {σ : St} {s : Shared} {h : Heap} {t : Nat}
theorem PostE.on {k : KE} {Q : Value → Shared → Prop} (p : PostE D c cn d ρ m fz news k s Q) (e : Ex (adr news) (adr news')) : PostE D c cn d ρ m fz news' k (up s h t) Q :=
  fun b σ' n v h' t' e' H r q => p b σ' n v h' t' (e.trans e') H r q
theorem PostEs.on {k : KEs} {Q : List Value → Shared → Prop} (p : PostEs D c cn d ρ m fz news k s Q) (e : Ex (adr news) (adr news')) : PostEs D c cn d ρ m fz news' k (up s h t) Q :=
  fun b σ' n v h' t' e' H r q => p b σ' n v h' t' (e.trans e') H r q
theorem PostT.on {k : KT'} {Q : Bool → Shared → Prop} (p : PostT D c cn d ρ m fz news k s Q) (e : Ex (adr news) (adr news')) : PostT D c cn d ρ m fz news' k (up s h t) Q :=
  fun b σ' n h' t' e' H q => p b σ' n h' t' (e.trans e') H q
theorem PostS.on {k : KS} {Q : Flow → Shared → Prop} (p : PostS D c cn d fz news k s Q) (e : Ex (adr news) (adr news')) : PostS D c cn d fz news' k (up s h t) Q :=
  fun fl ρ m σ' n f h' t' e' H r q => p fl ρ m σ' n f h' t' (e.trans e') H r q
end

noncomputable def SndE (D : Wd) (e : Ev) : Prop := ∀ {d : Nat} {cn : Cn} {ex : Expr} {ρ : Loc} {σ : St} {x k : KE}, e.E d cn ex ρ σ x k = true → ∀ {c : Cx} {m : Str → Option Value} {fz news : News'} {s : Shared} {Q : Value → Shared → Prop} {E : Value → Shared → Prop},
  Here D c cn d ρ m fz news σ s.heap → PostE D c cn d ρ m fz news k s Q → PostX D c m fz news x s E → wpAny D.M c.A (eval ex c.env) Q E s
noncomputable def SndEs (D : Wd) (e : Ev) : Prop := ∀ {d : Nat} {cn : Cn} {es : List Expr} {ρ : Loc} {σ : St} {x : KE} {k : KEs}, e.Es d cn es ρ σ x k = true → noStar es = true → ∀ {c : Cx} {m : Str → Option Value} {fz news : News'} {s : Shared} {Q : List Value → Shared → Prop} {E : Value → Shared → Prop} {pos : Pos},
  Here D c cn d ρ m fz news σ s.heap → PostEs D c cn d ρ m fz news k s Q → PostX D c m fz news x s E → wpAny D.M c.A (spliced (backTo pos (starEach es c.env))) Q E s
noncomputable def SndT (D : Wd) (e : Ev) : Prop := ∀ {d : Nat} {cn : Cn} {ex : Expr} {ρ : Loc} {σ : St} {x : KE} {k : KT'}, e.T d cn ex ρ σ x k = true → ∀ {c : Cx} {m : Str → Option Value} {fz news : News'} {s : Shared} {Q : Bool → Shared → Prop} {E : Value → Shared → Prop},
  Here D c cn d ρ m fz news σ s.heap → PostT D c cn d ρ m fz news k s Q → PostX D c m fz news x s E → wpAny D.M c.A (isTrue ex c.env (eval ex c.env)) Q E s
/-- the frame's own block -/
noncomputable def Own (c : Cx) : Prop := c.env = c.fe ∧ c.env.locals = c.L
noncomputable def SndS (D : Wd) (e : Ev) : Prop := ∀ {d : Nat} {cn : Cn} {st : Stmt} {ρ : Loc} {σ : St} {x : KX} {k : KS}, e.S d cn st ρ σ x k = true → ∀ {c : Cx} {m : Str → Option Value} {fz news : News'} {s : Shared} {Q : Flow → Shared → Prop} {E : Value → Shared → Prop},
  Own c → Here D c cn d ρ m fz news σ s.heap → PostS D c cn d fz news k s Q → PostXs D c fz news x s E → wpAny D.M c.A (exec st c.env) Q E s
noncomputable def SndSs (D : Wd) (e : Ev) : Prop := ∀ {d : Nat} {cn : Cn} {sts : List Stmt} {ρ : Loc} {σ : St} {x : KX} {k : KS}, e.Ss d cn sts ρ σ x k = true → ∀ {c : Cx} {m : Str → Option Value} {fz news : News'} {s : Shared} {Q : Flow → Shared → Prop} {E : Value → Shared → Prop},
  Own c → Here D c cn d ρ m fz news σ s.heap → PostS D c cn d fz news k s Q → PostXs D c fz news x s E → wpAny D.M c.A (execs sts c.env) Q E s
noncomputable def SndC (D : Wd) (e : Ev) : Prop := ∀ {d : Nat} {f : Nat} {vs : List AV} {σ : St} {x k : KE}, e.C d f vs σ x k = true → ∀ {c : Cx} {cn : Cn} {ρ : Loc} {m : Str → Option Value} {fz news : News'} {s : Shared} {vals : List Value} {A' : Around} {R' : Result → Shared → Prop},
  Here D c cn d ρ m fz news σ s.heap → cn.rz = true → All2 (VR (adr news)) vs vals → A'.frames = c.A.frames → A'.handled = none → A'.depth ≤ c.A.depth + 2 → A'.units ≤ c.A.units + 8 →
  PostE D c cn d ρ m fz news k s (fun v => R' (.ok (.ret v))) → PostX D c m fz news x s (fun e => R' (.error e)) → codeAny D.M A' (.call (.ref f) ⟨vals, []⟩) R' s
/-- the law's draw -/
noncomputable def TakeOk (D : Wd) : Prop := ∀ {c : Cx} {cn : Cn} {d : Nat} {ρ : Loc} {m : Str → Option Value} {fz news : News'} {σ : St} {s : Shared} {vs : List AV} {vals : List Value} {k : KE} {Q : Value → Shared → Prop} {E : Value → Shared → Prop},
  takeV vs σ k = true → Here D c cn (d + 1) ρ m fz news σ s.heap → cn.rz = true → All2 (VR (adr news)) vs vals → PostE D c cn (d + 1) ρ m fz news k s Q → wpAny D.M c.A (call (.ref D.G.take) vals) Q E s
structure Snd (D : Wd) (e : Ev) : Prop where
  E : SndE D e
  Es : SndEs D e
  T : SndT D e
  S : SndS D e
  Ss : SndSs D e
  C : SndC D e
theorem snd0 (D : Wd) : Snd D ev0 := ⟨fun e => (by cases e), fun e => (by cases e), fun e => (by cases e), fun e => (by cases e), fun e => (by cases e), fun e => (by cases e)⟩

section
variable {D : Wd} {ih : Ev} {c : Cx} {cn : Cn} {d : Nat} {ρ : Loc} {m : Str → Option Value} {fz news : News'} {σ : St} {s : Shared} {A : Around} {E : Value → Shared → Prop}

theorem spl_cons {e : Expr} {r : List Expr} {env : Env} (h : isStar e = false) : starEach (e :: r) env = (false, eval e env) :: starEach r env := by
  cases e <;> first | rfl | (cases h; done)
theorem noStar_cons {e : Expr} {r : List Expr} (h : noStar (e :: r) = true) : isStar e = false ∧ noStar r = true := by
  unfold noStar at h
  split at h
  · cases h
  · rename_i q; exact ⟨q, h⟩
theorem noStar_plain {env : Env} {pos : Pos} : ∀ {es : List Expr}, noStar es = true → (backTo pos (starEach es env)).any (·.1) = false
  | [], _ => rfl
  | e :: r, h => by
    obtain ⟨h1, h2⟩ := noStar_cons h
    rw [spl_cons h1]
    show (false || (backTo pos (starEach r env)).any (·.1)) = false
    rw [Bool.false_or]; exact noStar_plain h2

theorem stepEs (S : Snd D ih) : SndEs D (step D.G ih) := by
  intro d cn es ρ σ x k e hs c m fz news s Q E pos H hQ hX
  have e : evEs ih d cn es ρ σ x k = true := e
  unfold evEs at e
  split at e
  · exact args_nil (hQ [] σ news [] s.heap s.toks (Ex.refl _) H .nil e)
  · rename_i a r
    obtain ⟨h1, h2⟩ := noStar_cons hs
    refine args_cons (S.E e H (fun b σ' n' v h t ex H' hv e' => ?_) hX) (spl_cons h1)
    exact S.Es e' h2 (s := up s h t) H' (fun bs σ'' n'' vs h' t' ex' H'' hvs e'' => hQ (b :: bs) σ'' n'' (v :: vs) h' t' (ex.trans ex') H'' (.cons (hv.ex ex') hvs) e'') (hX.on ex)

theorem truthy_rule {a : AV} {v : Value} {b : Bool} {M : Model} {Q : Bool → Shared → Prop} {as : As} (e : truth a = some b) (hv : VR as a v) (h : Q b s) : wpAny M A (truthy v) Q E s := by
  cases a <;> first | (cases e; done) | skip
  · cases e; rw [show v = Value.none from hv]; exact fun _ _ _ => h
  · cases e; rw [show v = Value.bool _ from hv]; exact wpAny_truthy_bool h

/-- the operands of a test or a value: one comparison, or two -/
theorem evCmp_val (S : Snd D ih) {l : Expr} {ops : List CmpOp} {rs : List Expr} {pos : Pos} {x : KE} {k : KT'} {Q : Value → Shared → Prop} (e : evCmp ih d cn l ops rs ρ σ x k = true) (H : Here D c cn d ρ m fz news σ s.heap)
    (hQ : PostT D c cn d ρ m fz news k s (fun b => Q (.bool b))) (hX : PostX D c m fz news x s E) : wpAny D.M c.A (eval (.Compare l ops rs pos) c.env) Q E s := by
  unfold evCmp at e
  split at e
  · rename_i op r
    split at e
    · rename_i hr
      refine wpAny_Compare1 (S.E e H (fun a σ1 n1 va h1 t1 ex1 H1 hv1 e1 => ?_) hX) (by cases r <;> first | rfl | (cases hr; done))
      refine S.E e1 (s := up s h1 t1) H1 (fun b σ2 n2 vb h2 t2 ex2 H2 hv2 e2 => ?_) (hX.on ex1)
      dsimp only at e2
      split at e2
      · rename_i q hq
        exact cmp_rule (s := up s h2 t2) hq H2 (hv1.ex ex2) hv2 (hQ q σ2 n2 h2 t2 (ex1.trans ex2) H2 e2)
      · cases e2
    · cases e
  · rename_i op op' r r'
    split at e
    · rename_i hr
      have hm : markedEach [op, op'] [r, r'] (evalEach [r, r'] c.env) = [eval r c.env, eval r' c.env] := by
        show eval r c.env :: [markedBehindIn op' r' (eval r' c.env)] = _
        rw [markedBehindIn_of_false (by cases r' <;> first | rfl | (cases hr; done))]
      have he : eval (.Compare l [op, op'] [r, r'] pos) c.env = (do compareChain pos (← eval l c.env) [op, op'] (markedEach [op, op'] [r, r'] (evalEach [r, r'] c.env))) := rfl
      rw [he, hm]
      refine wpAny_bind (S.E e H (fun a σ1 n1 va h1 t1 ex1 H1 hv1 e1 => ?_) hX)
      unfold compareChain
      refine wpAny_bind (wpAny_holding (S.E e1 (s := up s h1 t1) H1 (fun b σ2 n2 vb h2 t2 ex2 H2 hv2 e2 => ?_) (hX.on ex1)))
      refine wpAny_bind (wpAny_standAt (wpAny_bind (wpAny_holding ?_)))
      have rel : ∀ {vs keep : List Value} {Q : Unit → Shared → Prop} {s : Shared}, Q () s → wpAny D.M c.A (release vs keep) Q E s := fun h Γ p hΓ => by rw [Sem.wp_release]; exact h
      dsimp only at e2
      split at e2
      · rename_i hq
        refine cmp_rule (s := up s h2 t2) hq H2 (hv1.ex ex2) hv2 (wpAny_bind (rel ?_))
        refine wpAny_bind (wpAny_holding (wpAny_truthy_bool ?_))
        rw [if_pos rfl]
        unfold compareChain
        refine wpAny_bind (wpAny_holding (S.E e2 (s := up s h2 t2) H2 (fun b' σ3 n3 vb' h3 t3 ex3 H3 hv3 e3 => ?_) (hX.on (ex1.trans ex2))))
        refine wpAny_bind (wpAny_standAt (wpAny_operating ?_))
        dsimp only at e3
        split at e3
        · rename_i q hq'
          exact cmp_rule (s := up s h3 t3) hq' H3 (hv2.ex ex3) hv3 (hQ q σ3 n3 h3 t3 (ex1.trans (ex2.trans ex3)) H3 e3)
        · cases e3
      · rename_i hq
        refine cmp_rule (s := up s h2 t2) hq H2 (hv1.ex ex2) hv2 (wpAny_bind (rel ?_))
        refine wpAny_bind (wpAny_holding (wpAny_truthy_bool ?_))
        rw [if_neg (by decide)]
        exact wpAny_pure (hQ false σ2 n2 h2 t2 (ex1.trans ex2) H2 e2)
      · cases e2
    · cases e
  · cases e
end
end Mine
end

section
set_option maxRecDepth 100000
namespace Mine
open PySem PySem.W PySem.W.X PySem.Calls PyProof.Rows PySem.Spec

section
variable {D : Wd} {ih : Ev} {c : Cx} {cn : Cn} {d : Nat} {ρ : Loc} {m : Str → Option Value} {fz news : News'} {σ : St} {s : Shared} {A : Around} {E : Value → Shared → Prop}
theorem rel_ {M : Model} {vs keep : List Value} {Q : Unit → Shared → Prop} {s : Shared} (h : Q () s) : wpAny M A (release vs keep) Q E s := fun Γ p hΓ => by rw [Sem.wp_release]; exact h

theorem evCmp_test (S : Snd D ih) {l : Expr} {ops : List CmpOp} {rs : List Expr} {pos : Pos} {whole : Sem Value} {x : KE} {k : KT'} {Q : Bool → Shared → Prop} (e : evCmp ih d cn l ops rs ρ σ x k = true) (H : Here D c cn d ρ m fz news σ s.heap)
    (hQ : PostT D c cn d ρ m fz news k s Q) (hX : PostX D c m fz news x s E) : wpAny D.M c.A (isTrue (.Compare l ops rs pos) c.env whole) Q E s := by
  unfold evCmp at e
  split at e
  · rename_i op r
    split at e
    · rename_i hr
      refine wpAny_isTrue_Compare1 (S.E e H (fun a σ1 n1 va h1 t1 ex1 H1 hv1 e1 => ?_) hX) (by cases r <;> first | rfl | (cases hr; done))
      refine S.E e1 (s := up s h1 t1) H1 (fun b σ2 n2 vb h2 t2 ex2 H2 hv2 e2 => ?_) (hX.on ex1)
      dsimp only at e2
      split at e2
      · rename_i q hq
        exact cmp_rule (s := up s h2 t2) hq H2 (hv1.ex ex2) hv2 (wpAny_truthy_bool (hQ q σ2 n2 h2 t2 (ex1.trans ex2) H2 e2))
      · cases e2
    · cases e
  · rename_i op op' r r'
    split at e
    · rename_i hr
      have hm : markedEach [op, op'] [r, r'] (evalEach [r, r'] c.env) = [eval r c.env, eval r' c.env] := by
        show eval r c.env :: [markedBehindIn op' r' (eval r' c.env)] = _
        rw [markedBehindIn_of_false (by cases r' <;> first | rfl | (cases hr; done))]
      have he : isTrue (.Compare l [op, op'] [r, r'] pos) c.env whole = (do testChain pos (← eval l c.env) [op, op'] (markedEach [op, op'] [r, r'] (evalEach [r, r'] c.env))) := rfl
      rw [he, hm]
      refine wpAny_bind (S.E e H (fun a σ1 n1 va h1 t1 ex1 H1 hv1 e1 => ?_) hX)
      unfold testChain
      refine wpAny_bind (wpAny_holding (S.E e1 (s := up s h1 t1) H1 (fun b σ2 n2 vb h2 t2 ex2 H2 hv2 e2 => ?_) (hX.on ex1)))
      refine wpAny_bind (wpAny_standAt (wpAny_bind (wpAny_holding ?_)))
      dsimp only at e2
      split at e2
      · rename_i hq
        refine cmp_rule (s := up s h2 t2) hq H2 (hv1.ex ex2) hv2 (wpAny_bind (rel_ ?_))
        refine wpAny_bind (wpAny_holding (wpAny_truthy_bool ?_))
        rw [if_pos rfl]
        unfold testChain
        refine wpAny_bind (wpAny_holding (S.E e2 (s := up s h2 t2) H2 (fun b' σ3 n3 vb' h3 t3 ex3 H3 hv3 e3 => ?_) (hX.on (ex1.trans ex2))))
        refine wpAny_bind (wpAny_standAt (wpAny_bind (wpAny_operating ?_)))
        dsimp only at e3
        split at e3
        · rename_i q hq'
          exact cmp_rule (s := up s h3 t3) hq' H3 (hv2.ex ex3) hv3 (wpAny_holding (wpAny_truthy_bool (hQ q σ3 n3 h3 t3 (ex1.trans (ex2.trans ex3)) H3 e3)))
        · cases e3
      · rename_i hq
        refine cmp_rule (s := up s h2 t2) hq H2 (hv1.ex ex2) hv2 (wpAny_bind (rel_ ?_))
        refine wpAny_bind (wpAny_holding (wpAny_truthy_bool ?_))
        rw [if_neg (by decide)]
        exact wpAny_pure (hQ false σ2 n2 h2 t2 (ex1.trans ex2) H2 e2)
      · cases e2
    · cases e
  · cases e

theorem evBool_val (S : Snd D ih) {op : BoolOp} {es : List Expr} {pos : Pos} {x k : KE} {Q : Value → Shared → Prop} (e : evBool ih d cn op es pos ρ σ x k = true) (H : Here D c cn d ρ m fz news σ s.heap)
    (hQ : PostE D c cn d ρ m fz news k s Q) (hX : PostX D c m fz news x s E) : wpAny D.M c.A (eval (.BoolOp op es pos) c.env) Q E s := by
  have he : eval (.BoolOp op es pos) c.env = boolOp pos op (evalEach es c.env) := rfl
  rw [he]
  unfold evBool at e
  split at e
  · cases e
  · rename_i a r
    split at e
    · show wpAny D.M c.A (eval a c.env) Q E s
      exact S.E e H hQ hX
    · rename_i b r'
      have hb : boolOp pos op (evalEach (a :: b :: r') c.env) = (do
          let v ← eval a c.env
          standAt pos
          let t ← holding [v] (truthy v)
          match op, t with
          | .And, false | .Or, true => pure v
          | _, _ => boolOp pos op (evalEach (b :: r') c.env)) := rfl
      rw [hb]
      refine wpAny_bind (S.E e H (fun v' σ1 n1 va h1 t1 ex1 H1 hv1 e1 => ?_) hX)
      refine wpAny_bind (wpAny_standAt (wpAny_bind (wpAny_holding ?_)))
      dsimp only at e1
      split at e1
      · rename_i hq
        exact truthy_rule hq hv1 (S.E e1 (s := up s h1 t1) H1 (hQ.on ex1) (hX.on ex1))
      · rename_i hq
        exact truthy_rule hq hv1 (wpAny_pure (hQ v' σ1 n1 va h1 t1 ex1 H1 hv1 e1))
      · rename_i hq
        exact truthy_rule hq hv1 (wpAny_pure (hQ v' σ1 n1 va h1 t1 ex1 H1 hv1 e1))
      · rename_i hq
        exact truthy_rule hq hv1 (S.E e1 (s := up s h1 t1) H1 (hQ.on ex1) (hX.on ex1))
      · cases e1

theorem evTb_test (S : Snd D ih) {op : BoolOp} {es : List Expr} {pos : Pos} {whole : Sem Value} {x : KE} {k : KT'} {Q : Bool → Shared → Prop} (e : evTb ih d cn op es pos ρ σ x k = true) (H : Here D c cn d ρ m fz news σ s.heap)
    (hQ : PostT D c cn d ρ m fz news k s Q) (hX : PostX D c m fz news x s E) : wpAny D.M c.A (isTrue (.BoolOp op es pos) c.env whole) Q E s := by
  have he : isTrue (.BoolOp op es pos) c.env whole = allTrue op es c.env := rfl
  rw [he]
  unfold evTb at e
  split at e
  · split at e
    · exact wpAny_pure (hQ.here H (t := s.toks) e)
    · exact wpAny_pure (hQ.here H (t := s.toks) e)
  · rename_i a r
    have hb : allTrue op (a :: r) c.env = (do
        match op, ← isTrue a c.env (eval a c.env) with
        | .And, false => pure false
        | .Or, true => pure true
        | _, _ => allTrue op r c.env) := rfl
    rw [hb]
    refine wpAny_bind (S.T e H (fun b σ1 n1 h1 t1 ex1 H1 e1 => ?_) hX)
    dsimp only at e1
    split at e1
    · exact S.T e1 (s := up s h1 t1) H1 (hQ.on ex1) (hX.on ex1)
    · exact wpAny_pure (hQ false σ1 n1 h1 t1 ex1 H1 e1)
    · exact wpAny_pure (hQ true σ1 n1 h1 t1 ex1 H1 e1)
    · exact S.T e1 (s := up s h1 t1) H1 (hQ.on ex1) (hX.on ex1)

theorem evTd_test (S : Snd D ih) {ex : Expr} {x : KE} {k : KT'} {Q : Bool → Shared → Prop} (e : evTd ih d cn ex ρ σ x k = true) (H : Here D c cn d ρ m fz news σ s.heap)
    (hQ : PostT D c cn d ρ m fz news k s Q) (hX : PostX D c m fz news x s E) (hp : isTrue ex c.env (eval ex c.env) = (do let v ← eval ex c.env; standAt ex.pos; holding [v] (truthy v))) : wpAny D.M c.A (isTrue ex c.env (eval ex c.env)) Q E s := by
  rw [hp]
  refine wpAny_bind (S.E e H (fun v' σ1 n1 va h1 t1 ex1 H1 hv1 e1 => ?_) hX)
  refine wpAny_bind (wpAny_standAt (wpAny_holding ?_))
  dsimp only at e1
  split at e1
  · rename_i b hq
    exact truthy_rule hq hv1 (hQ b σ1 n1 h1 t1 ex1 H1 e1)
  · cases e1

theorem stepT (S : Snd D ih) : SndT D (step D.G ih) := by
  intro d cn ex ρ σ x k e c m fz news s Q E H hQ hX
  change evT ih d cn ex ρ σ x k = true at e
  unfold evT at e
  split at e
  · rename_i op a p
    split at e
    · have he : isTrue (.UnaryOp .Not a p) c.env (eval (.UnaryOp .Not a p) c.env) = (do return !(← isTrue a c.env (eval a c.env))) := rfl
      rw [he]
      exact wpAny_bind (S.T e H (fun b σ1 n1 h1 t1 ex1 H1 e1 => wpAny_pure (hQ (!b) σ1 n1 h1 t1 ex1 H1 e1)) hX)
    · cases e
  · exact evTb_test S e H hQ hX
  · exact evCmp_test S e H hQ hX
  · exact evTd_test S e H hQ hX rfl
  · exact evTd_test S e H hQ hX rfl
  · exact evTd_test S e H hQ hX rfl
  · exact evTd_test S e H hQ hX rfl
  · cases e
end
end Mine
end

section
/-! dict displays -/
set_option maxRecDepth 100000
namespace Mine
open PySem PySem.W PySem.W.X PySem.Calls PyProof.Rows PySem.Spec

section
variable {D : Wd} {ih : Ev} {c : Cx} {cn : Cn} {d : Nat} {ρ : Loc} {m : Str → Option Value} {fz news : News'} {σ : St} {s : Shared} {A : Around} {E : Value → Shared → Prop} {h h' : Heap} {a : Addr} {o : Obj}

/-! something of the frame's own that the store does not know -/
theorem SR.addfz {R : Addr} {z : Nat} {ns : List Int} {P : Params} {h₀ : Heap} {L : Addr} (S : SR R z ns P h₀ L fz σ news h) (N : News h₀ L h' ((a, o) :: (news ++ fz))) (hf : ∀ q ∈ news ++ fz, q.1 ≠ a) : SR R z ns P h₀ L ((a, o) :: fz) σ news h' := by
  refine ⟨?_, S.zl, fun p hp => N p ?_, ?_, S.ln, S.lt, S.ob⟩
  · obtain ⟨vs, n, h1, r⟩ := S.rw; exact ⟨vs, n, .tail _ h1, r⟩
  · simp only [List.mem_append, List.mem_cons] at hp ⊢
    rcases hp with hp | hp | hp
    · exact .inr (.inl hp)
    · exact .inl hp
    · exact .inr (.inr hp)
  · have nd := S.nd
    simp only [adr, List.map_append, List.map_cons] at nd ⊢
    have e : (news.map (·.1) ++ a :: fz.map (·.1)).Perm (a :: (news.map (·.1) ++ fz.map (·.1))) := List.perm_middle
    refine e.nodup_iff.mpr (List.nodup_cons.mpr ⟨fun hm => ?_, nd⟩)
    rw [← List.map_append] at hm
    obtain ⟨p, hp, e⟩ := List.mem_map.mp hm
    exact hf p hp e
theorem SR.fz_off {R : Addr} {z : Nat} {ns : List Int} {P : Params} {h₀ : Heap} {L : Addr} (S : SR R z ns P h₀ L ((a, o) :: fz) σ news h) : ∀ q ∈ news ++ fz, q.1 ≠ a := by
  have nd := S.nd
  simp only [adr, List.map_append, List.map_cons] at nd
  have e : (news.map (·.1) ++ a :: fz.map (·.1)).Perm (a :: (news.map (·.1) ++ fz.map (·.1))) := List.perm_middle
  have := (List.nodup_cons.mp (e.nodup_iff.mp nd)).1
  intro q hq e'
  apply this
  rw [← List.map_append, ← e']
  exact List.mem_map_of_mem hq
theorem RowIn.ne {R : Addr} {ns : List Int} (r : RowIn R ns ((a, o) :: fz)) (h : R ≠ a ) : RowIn R ns fz := by
  obtain ⟨vs, n, h1, r⟩ := r
  rcases List.mem_cons.mp h1 with e | h1
  · exact absurd (congrArg Prod.fst e) h
  · exact ⟨vs, n, h1, r⟩
theorem SR.dropfz {R : Addr} {z : Nat} {ns : List Int} {P : Params} {h₀ : Heap} {L : Addr} (S : SR R z ns P h₀ L ((a, o) :: fz) σ news h) (r : RowIn R ns fz) : SR R z ns P h₀ L fz σ news h := by
  refine ⟨r, S.zl, fun p hp => S.nw p ?_, ?_, S.ln, S.lt, S.ob⟩
  · rcases List.mem_append.mp hp with hp | hp
    · exact List.mem_append_left _ hp
    · exact List.mem_append_right _ (.tail _ hp)
  · have nd := S.nd
    simp only [adr, List.map_append, List.map_cons] at nd ⊢
    have e : (news.map (·.1) ++ a :: fz.map (·.1)).Perm (a :: (news.map (·.1) ++ fz.map (·.1))) := List.perm_middle
    exact (List.nodup_cons.mp (e.nodup_iff.mp nd)).2
theorem LocAt.addfz {ml : Str → Option Value} (l : LocAt c m fz ml) : LocAt c m ((a, o) :: fz) ml := by
  rcases l with l | ⟨ob, es, ep, h1, r⟩
  · exact .inl l
  · exact .inr ⟨ob, es, ep, .tail _ h1, r⟩
theorem Rho.addfz {as : As} (r : Rho c ρ m fz as) : Rho c ρ m ((a, o) :: fz) as := by
  obtain ⟨⟨ml, h1, h2⟩, h3⟩ := r
  exact ⟨⟨ml, h1.addfz, h2⟩, h3⟩
theorem Here.addfz (H : Here D c cn d ρ m fz news σ h) (F' : Fr c.h₀ c.L h' m) (N : News c.h₀ c.L h' ((a, o) :: (news ++ fz))) (hf : ∀ q ∈ news ++ fz, q.1 ≠ a) : Here D c cn d ρ m ((a, o) :: fz) news σ h' :=
  ⟨H.ok, F', H.S.addfz N hf, H.rho.addfz⟩
/-- what was pushed beside the store -/
theorem Here.pushfz (H : Here D c cn d ρ m fz news σ h) (o : Obj) (hfree : o.isFreed = false) : Here D c cn d ρ m ((h.objs.size, o) :: fz) news σ (h.push o) :=
  H.addfz (H.F.push o) (News.push H.F H.S.nw o hfree) (fresh_top H.S.nw)
theorem Here.dropfz (H : Here D c cn d ρ m ((a, o) :: fz) news σ h) (r : Rho c ρ m fz (adr news)) (rw : RowIn D.R D.ns fz) : Here D c cn d ρ m fz news σ h :=
  ⟨H.ok, H.F, H.S.dropfz rw, r⟩
theorem Here.fzNews (H : Here D c cn d ρ m ((a, o) :: fz) news σ h) : News c.h₀ c.L h ((a, o) :: (news ++ fz)) := fun p hp => H.S.nw p (by
  simp only [List.mem_append, List.mem_cons] at hp ⊢
  rcases hp with hp | hp | hp
  · exact .inr (.inl hp)
  · exact .inl hp
  · exact .inr (.inr hp))
/-- a store at the thing itself -/
theorem Here.fzSame (H : Here D c cn d ρ m ((a, o) :: fz) news σ h) (hs : Heap.SameBut a h h') {o' : Obj} (ho : h'.get? a = some o') : Fr c.h₀ c.L h' m ∧ News c.h₀ c.L h' ((a, o') :: (news ++ fz)) := by
  have N := H.fzNews
  have Na := N (a, o) (.head _)
  have hf := H.S.fz_off
  refine ⟨⟨H.F.ns.sameBut hs (Ne.symm Na.2.1), fun b o e => (hs.2 b (fun q => ?_)).trans (H.F.keep b o e), H.F.above⟩, fun p hp => ?_⟩
  · rw [q, Na.2.2] at e; cases e
  · rcases List.mem_cons.mp hp with rfl | hp
    · exact ⟨ho, Na.2⟩
    · have P := N p (.tail _ hp)
      exact ⟨(hs.2 _ (hf p hp)).trans P.1, P.2⟩
theorem Fly.dropfz {b : AV} {e : Value} (f : Fly D c m ((a, o) :: fz) news σ b e h) (r : RowIn D.R D.ns fz) : Fly D c m fz news σ b e h := by
  obtain ⟨i, C, dd, ea, h1, h2, h3, h4, h5, h6, h7, h8, h9, oe, vs, t1, t2, t3⟩ := f
  have sub : ∀ q ∈ news ++ fz, q ∈ news ++ (a, o) :: fz := fun q hq => by
    rcases List.mem_append.mp hq with hq | hq
    · exact List.mem_append_left _ hq
    · exact List.mem_append_right _ (.tail _ hq)
  refine ⟨i, C, dd, ea, h1, h2, h3, h4, h5, h6, h7, h8.dropfz r, fun env he q hq => h9 env he q (sub q hq), oe, vs, t1, t2, t3.imp id ?_⟩
  rintro ⟨T, oT, ts, u1, u2, u3, u4⟩
  exact ⟨T, oT, ts, u1, u2, fun q hq => u3 q (sub q hq), u4⟩
theorem PostX.addfz {x : KE} (p : PostX D c m fz news x s E) (r : RowIn D.R D.ns fz) {h : Heap} {t : Nat} : PostX D c m ((a, o) :: fz) news x (up s h t) E :=
  fun b σ' n v h' t' e f q => p b σ' n v h' t' e (f.dropfz r) q

/-! a key of an int and a str -/
noncomputable def mixIs : Int ⊕ Str → Value → Bool
  | .inl i, v => Value.isInt i v
  | .inr x, v => Value.isStrOf x v
noncomputable def mixHash (w : World) : Int ⊕ Str → Int
  | .inl i => hashInt i
  | .inr x => hashStr w x
theorem mix_inj (v : Value) : ∀ a b, mixIs a v = true → mixIs b v = true → a = b
  | .inl _, .inl _, ha, hb => congrArg _ (Value.isInt_inj v _ _ ha hb)
  | .inl i, .inr x, ha, hb => by
    obtain ⟨t, e1⟩ := Value.isInt_shape (show Value.isInt i v = true from ha)
    obtain ⟨u, e⟩ := Value.isStrOf_shape (show Value.isStrOf x v = true from hb); rw [e1] at e; cases e
  | .inr x, .inl i, ha, hb => by
    obtain ⟨t, e1⟩ := Value.isInt_shape (show Value.isInt i v = true from hb)
    obtain ⟨u, e⟩ := Value.isStrOf_shape (show Value.isStrOf x v = true from ha); rw [e1] at e; cases e
  | .inr _, .inr _, ha, hb => congrArg _ (Value.isStrOf_inj v _ _ ha hb)
theorem mix_byValue : ∀ k v, mixIs k v = true → carriedByValue v = true
  | .inl i, v, h => by obtain ⟨t, rfl⟩ := Value.isInt_shape (show Value.isInt i v = true from h); rfl
  | .inr i, v, h => by obtain ⟨t, rfl⟩ := Value.isStrOf_shape (show Value.isStrOf i v = true from h); rfl
section
variable {prog : Program} {w : World} {A : Around} {E : Value → Shared → Prop} {s : Shared}
theorem mix_pyHash {k : Int ⊕ Str} {v : Value} {Q : Int → Shared → Prop} (hv : mixIs k v = true) (h : Q (mixHash w k) { s with toks := s.toks + 1 }) : wpAny (model prog w) A (PySem.pyHash v) Q E s := by
  cases k with
  | inl i => obtain ⟨t, rfl⟩ := Value.isInt_shape (show Value.isInt i v = true from hv); exact wpAny_pyHash_int h
  | inr i => obtain ⟨t, rfl⟩ := Value.isStrOf_shape (show Value.isStrOf i v = true from hv); exact wpAny_pyHash_str h
theorem mix_eqBool {a b : Int ⊕ Str} {u v : Value} {Q : Bool → Shared → Prop} (hu : mixIs a u = true) (hv : mixIs b v = true) (h : Q (decide (a = b)) s) : wpAny (model prog w) A (PySem.eqBool u v) Q E s := by
  cases a with
  | inl i =>
    obtain ⟨t, rfl⟩ := Value.isInt_shape (show Value.isInt i u = true from hu)
    cases b with
    | inl j => obtain ⟨t', rfl⟩ := Value.isInt_shape (show Value.isInt j v = true from hv); exact wpAny_eqBool_int (by rw [show (i == j) = decide (i = j) from rfl]; simpa using h)
    | inr x =>
      obtain ⟨t', rfl⟩ := Value.isStrOf_shape (show Value.isStrOf x v = true from hv)
      unfold PySem.eqBool
      refine wpAny_holding ?_
      rw [if_neg (by simp)]
      exact wpAny_bind (EqMixed.eq_int_str (wpAny_truthy_bool (by simpa using h)))
  | inr x =>
    obtain ⟨t, rfl⟩ := Value.isStrOf_shape (show Value.isStrOf x u = true from hu)
    cases b with
    | inl j =>
      obtain ⟨t', rfl⟩ := Value.isInt_shape (show Value.isInt j v = true from hv)
      unfold PySem.eqBool
      refine wpAny_holding ?_
      rw [if_neg (by simp)]
      exact wpAny_bind (EqMixed.eq_str_int (wpAny_truthy_bool (by simpa using h)))
    | inr y => obtain ⟨t', rfl⟩ := Value.isStrOf_shape (show Value.isStrOf y v = true from hv); exact wpAny_eqBool_str (by simpa using h)
end
theorem mix_strs : ∀ (k : Int ⊕ Str) (x : Str) (t : Tok) (v : Value), mixIs k (.str x t) = true → mixIs k v = v.isStr x
  | .inl i, x, t, v, h => by obtain ⟨u, e⟩ := Value.isInt_shape (show Value.isInt i (.str x t) = true from h); cases e
  | .inr y, x, t, v, h => by
    obtain ⟨u, hu⟩ := Value.isStrOf_shape (show Value.isStrOf y (.str x t) = true from h)
    injection hu with hx
    subst hx
    cases v <;> rfl
noncomputable def mixKind (prog : Program) (w : World) : PySem.KeyKind prog w (Int ⊕ Str) := PySem.KeyKind.mk mixIs (mixHash w) mix_inj mix_byValue mix_pyHash mix_eqBool mix_strs
noncomputable def mixEnc : Int ⊕ Str → PyData
  | .inl i => .int i
  | .inr x => .str x
theorem mixEnc_same (a b : Int ⊕ Str) : Spec.same (mixEnc a) (mixEnc b) = decide (a = b) := by
  cases a <;> cases b <;> simp [mixEnc, Spec.same]
  · rfl
  · rename_i x y
    by_cases h : x = y <;> simp [h]
end
end Mine
end

section
set_option maxRecDepth 100000
namespace Mine
open PySem PySem.W PySem.W.X PySem.Calls PyProof.Rows PySem.Spec

section
variable {D : Wd} {ih : Ev} {c : Cx} {cn : Cn} {d : Nat} {ρ : Loc} {m : Str → Option Value} {fz news : News'} {σ : St} {s : Shared} {A : Around} {E : Value → Shared → Prop}

theorem evDict_val (O : D.Ok) (S : Snd D ih) {ks : List (Option Expr)} {vs : List Expr} {pos : Pos} {x k : KE} {Q : Value → Shared → Prop} (e : evDict ih d cn ks vs ρ σ x k = true) (H : Here D c cn d ρ m fz news σ s.heap)
    (hQ : PostE D c cn d ρ m fz news k s Q) (hX : PostX D c m fz news x s E) : wpAny D.M c.A (eval (.Dict ks vs pos) c.env) Q E s := by
  unfold evDict at e
  split at e
  · refine wpAny_Dict_empty ?_
    exact mk_at (s := s) (o := .dict []) (t := s.toks) H e ⟨[], 0, rfl, .nil, by simp⟩ (H.F.push _) (News.push H.F H.S.nw _) (fresh_top H.S.nw) hQ
  · rename_i q v
    refine wpAny_Dict_any rfl rfl (by simp) (by simp) ?_
    have hp : pairTrees [some q] [v] c.env pos = [(eval q c.env, do let x ← eval v c.env; standAt pos; pure x)] := rfl
    rw [hp]
    have H0 := H.pushfz { cls := .type "dict", data := .dict #[] } rfl
    show wpAny D.M c.A (evalPairs [_]) _ E (up s (s.heap.push { cls := .type "dict", data := .dict #[] }) s.toks)
    unfold evalPairs
    refine wpAny_bind (S.E e (s := up s _ _) H0 (fun a σ1 n1 va h1 t1 ex1 H1 hv1 e1 => ?_) (hX.addfz H.S.rw))
    refine wpAny_bind (wpAny_holding (wpAny_bind ?_))
    refine S.E e1 (s := up s h1 t1) H1 (fun b σ2 n2 vb h2 t2 ex2 H2 hv2 e2 => ?_) ((hX.addfz H.S.rw).on ex1)
    refine wpAny_bind (wpAny_standAt (wpAny_pure ?_))
    unfold evalPairs
    refine wpAny_bind (wpAny_holding (wpAny_pure (wpAny_pure ?_)))
    have Hd : Here D c cn d ρ m fz n2 σ2 h2 := H2.dropfz (H.rho.ex (ex1.trans ex2)) H.S.rw
    have N2 := H2.fzNews
    have hoff := H2.S.fz_off
    dsimp only at e2
    split at e2
    · rename_i y
      obtain ⟨t, rfl⟩ := hv1
      refine wpAny_storeAll (knd := PySem.strKind D.prog D.w) [(.str y t, vb)] [(y, vb)] [] (up s h2 t2) _ ?_ ?_ (by show 0 + 1 ≤ sizeLine; rw [sizeLine_eq]; omega) (fun h' hm hs => ?_)
      · exact ⟨by show (y == y) = true; exact beq_self_eq_true y, rfl, trivial⟩
      · exact Heap.dictOf_iff.mpr ⟨_, (N2 _ (.head _)).1, #[], 0, ⟨rfl, rfl, rfl⟩, rfl, (fun e he => by simp at he), .nil, by simp⟩
      · obtain ⟨o', ho', hd'⟩ := Heap.dictOf_iff.mp hm
        obtain ⟨F', N'⟩ := H2.fzSame hs ho'
        have hmm : merged ([] : List (Str × Value)) [(y, vb)] = [(y, vb)] := rfl
        rw [hmm] at hd'
        exact mk_at (s := up s h2 t2) (o := .dict [(y, b)]) Hd e2 (dict_of (as := adr n2) (es := [(y, b)]) (.cons ⟨rfl, hv2⟩ .nil) hd' (by simp)) F' N' hoff (hQ.on (ex1.trans ex2))
    · rename_i i
      split at e2
      · rename_i j y hg
        split at e2
        · rename_i bb
          obtain ⟨ta, ob, rfl, g1, g2, vs', nn, rfl, g3⟩ := Hd.S.atV hg (hv1.ex ex2)
          obtain rfl : vb = .bool bb := hv2
          obtain ⟨u1, u2, rfl, ⟨t1', rfl⟩, ⟨t2', rfl⟩⟩ := all2_two g3
          have hu : c.A.units < cLine := by have := H.ok.uni; show c.A.units < 9900; omega
          have hT : TupTab (mixKind D.prog D.w) mixEnc ((s.heap.objs.size, ({ cls := .type "dict", data := .dict #[] } : Obj)) :: (n2 ++ fz)) s.heap.objs.size [] := by
            refine ⟨?_, _, #[], 0, [], .head _, ⟨rfl, rfl, rfl⟩, rfl, rfl, by simp, (fun x hx => by simp at hx), ?_⟩
            · exact H.F.notModules (modules_low H.ok.TR.nolimit)
            · exact .nil
          have hK : KeysIn (mixKind D.prog D.w) mixEnc ((s.heap.objs.size, ({ cls := .type "dict", data := .dict #[] } : Obj)) :: (n2 ++ fz)) [(.ref ta, .bool bb)] [(encTuple mixEnc [.inl j, .inr y], .bool bb)] := by
            refine .cons (.tail _ (List.mem_append_left _ (List.mem_of_getElem? g1))) (show TupKeyObj _ _ _ from ⟨rfl, _, nn, rfl, ?_⟩) (.bool bb) .nil
            refine .cons ?_ (.cons ?_ .nil)
            · show Value.isInt j (.int j t1') = true
              simp [Value.isInt]
            · show Value.isStrOf y (.str y t2') = true
              show (y == y) = true
              exact beq_self_eq_true y
          refine storeAll_tupTab mixEnc_same hu _ _ _ _ (up s h2 t2) _ Hd.F N2 hT hK (by show 0 + 1 ≤ sizeLine; rw [sizeLine_eq]; omega) (fun h' news' tk F' N' T' keep => ?_)
          obtain ⟨_, o', es, ep, xs, hm', _⟩ := T'
          have N'' : News c.h₀ c.L h' ((s.heap.objs.size, o') :: (n2 ++ fz)) := fun p hp => by
            rcases List.mem_cons.mp hp with rfl | hp
            · exact N' _ hm'
            · exact N' _ (keep _ (.tail _ hp) (hoff p hp))
          exact mk_at (s := up s h2 t2) (o := .junk) Hd e2 trivial F' N'' hoff (hQ.on (ex1.trans ex2))
        · cases e2
      · cases e2
    · cases e2
  · cases e
end
end Mine
end

section
/-! subscripts, calls -/
set_option maxRecDepth 100000
namespace Mine
open PySem PySem.W PySem.W.X PySem.Calls PyProof.Rows PySem.Spec

section
variable {D : Wd} {ih : Ev} {c : Cx} {cn : Cn} {d : Nat} {ρ : Loc} {m : Str → Option Value} {fz news : News'} {σ : St} {s : Shared} {A : Around} {E : Value → Shared → Prop}

theorem evSub_val (S : Snd D ih) {o sl : Expr} {pos : Pos} {x k : KE} {Q : Value → Shared → Prop} (e : evSub ih d cn o sl ρ σ x k = true) (H : Here D c cn d ρ m fz news σ s.heap)
    (hQ : PostE D c cn d ρ m fz news k s Q) (hX : PostX D c m fz news x s E) : wpAny D.M c.A (eval (.Subscript o sl pos) c.env) Q E s := by
  refine Subscript_ ?_
  unfold evSub at e
  split at e
  · rename_i lo up' st p
    split at e
    · cases e
    · split at e
      · rename_i l
        refine S.E e H (fun a σ1 n1 va h1 t1 ex1 H1 hv1 e1 => ?_) hX
        refine wpAny_Slice (S.E e1 (s := up s h1 t1) H1 (fun b σ2 n2 vb h2 t2 ex2 H2 hv2 e2 => ?_) (hX.on ex1))
        refine wpAny_evalPart_none (wpAny_evalPart_none ?_)
        dsimp only at e2
        split at e2
        · rename_i n
          obtain ⟨t, rfl⟩ := hv2
          split at e2
          · rename_i hr
            simp only [Bool.and_eq_true, decide_eq_true_eq] at hr
            obtain ⟨n', rfl⟩ : ∃ n' : Nat, n = (n' : Int) := ⟨n.toNat, by omega⟩
            exact slice_from_rule (s := up s h2 t2) e2 H2 (hv1.ex ex2) (fun _ _ => rfl) (hQ.on (ex1.trans ex2))
          · cases e2
        · cases e2
      · rename_i u
        refine S.E e H (fun a σ1 n1 va h1 t1 ex1 H1 hv1 e1 => ?_) hX
        refine wpAny_Slice (wpAny_evalPart_none ?_)
        refine S.E e1 (s := up s h1 t1) H1 (fun b σ2 n2 vb h2 t2 ex2 H2 hv2 e2 => ?_) (hX.on ex1)
        refine wpAny_evalPart_none ?_
        exact slice_to_rule (s := up s h2 t2) e2 H2 (hv1.ex ex2) hv2 (fun _ _ => rfl) (hQ.on (ex1.trans ex2))
      · cases e
  · rename_i hns
    refine S.E e H (fun a σ1 n1 va h1 t1 ex1 H1 hv1 e1 => ?_) hX
    refine S.E e1 (s := up s h1 t1) H1 (fun b σ2 n2 vb h2 t2 ex2 H2 hv2 e2 => ?_) (hX.on ex1)
    exact item_rule (s := up s h2 t2) e2 H2 (hv1.ex ex2) hv2 (fun a b c' p h => hns a b c' p h) (hQ.on (ex1.trans ex2))

/-- who keeps the arguments of a call -/
noncomputable def Kept (M : Model) (f : Value) (h : Heap) : Prop := ∃ k, (k = Keeper.frame ∨ k = Keeper.machine ∨ k = Keeper.boundFrame) ∧ Looks M h (keeperOf f) k
theorem kept_K {K : Frag} {M : Model} {h : Heap} {f : Value} (X : K.In h) (e : keepIn K f = true) : Kept M f h := by
  obtain ⟨k, a, b⟩ := looks_keep (M := M) e X
  exact ⟨k, a.elim .inl (fun e => .inr (.inl e)), b⟩
theorem kept_bi {M : Model} {h : Heap} (b : Bi) : Kept M b.val h := ⟨.machine, .inr (.inl rfl), by cases b <;> exact Looks.now⟩
theorem kept_builtin {M : Model} {h : Heap} (i : String) : Kept M (.builtin i) h := ⟨.machine, .inr (.inl rfl), Looks.now⟩
theorem Here.kt (H : Here D c cn d ρ m fz news σ s.heap) {a : Addr} {o : Obj} (e : D.G.T.get a = some o) : s.heap.get? a = some o := H.F.keep _ _ (kt_at H.ok.H e)
theorem fnAt_obj {T : KT} {f : Nat} {fd : FnD} (e : fnAt T f = some fd) : ∃ o fo b dv, T.get f = some o ∧ o.data = .func fo ∧ fo.body = .stmts b ∧ dflAt T fo.defaults = some dv ∧ litL dv = some fd.dfl ∧ fnOk T fo = true ∧
    fd.pars = parNames fo.params.args ∧ fd.body = b ∧ fd.names = fo.scope.names := by
  unfold fnAt at e
  split at e
  · rename_i o ho
    split at e
    · rename_i fo hf
      split at e
      · rename_i b hb
        split at e
        · rename_i dv hd
          split at e
          · rename_i dl hl
            split at e
            · rename_i hk
              cases e
              refine ⟨o, fo, b, dv, ho, hf, ?_, hd, hl, hk, rfl, rfl, rfl⟩
              unfold bodyOf at hb
              split at hb
              · rename_i q; rw [q]; cases hb; rfl
              · cases hb
            · cases e
          · cases e
        · cases e
      · cases e
    · cases e
  · cases e
theorem kept_fn {M : Model} (H : Here D c cn d ρ m fz news σ s.heap) {a : Nat} (e : (fnAt D.G.T a).isSome = true) : Kept M (.ref a) s.heap := by
  obtain ⟨fd, e⟩ := Option.isSome_iff_exists.mp e
  obtain ⟨o, fo, b, dv, h1, h2, _⟩ := fnAt_obj e
  obtain ⟨oc, od, oda, os⟩ := o
  simp only at h2
  subst h2
  exact ⟨.frame, .inl rfl, (Looks.ld (part := none) (H.kt h1)).andThen .now⟩
theorem evalArgs_es {M : Model} {f : Value} {es : List Expr} {env : Env} {pos : Pos} {Q : Args → Shared → Prop} (hs : noStar es = true) (h : wpAny M A (spliced (backTo pos (starEach es env))) (fun vs s' => Q ⟨vs, []⟩ s') E s) :
    wpAny M A (evalArgs f true (backTo pos (starEach es env)) []) Q E s := by
  cases es with
  | nil =>
    unfold evalArgs
    show wpAny M A (spliced [] >>= _) Q E s
    refine wpAny_bind (wpAny_mono (show wpAny M A (spliced []) _ E s from h) (fun vs s' h' => ?_) fun _ _ x => x)
    refine wpAny_bind (wpAny_pure ?_)
    refine wpAny_holding ?_
    exact wpAny_bind (wpAny_pure (wpAny_bind (wpAny_pure (wpAny_pure h'))))
  | cons a r =>
    obtain ⟨h1, _⟩ := noStar_cons hs
    rw [spl_cons h1] at h ⊢
    exact evalArgs_plain h
end
end Mine
end

section
/-! calls -/
set_option maxRecDepth 100000
namespace Mine
open PySem PySem.W PySem.W.X PySem.Calls PyProof.Rows PySem.Spec

section
variable {D : Wd} {ih : Ev} {c : Cx} {cn : Cn} {d : Nat} {ρ : Loc} {m : Str → Option Value} {fz news : News'} {σ : St} {s : Shared} {A : Around} {E : Value → Shared → Prop}

theorem n_append : nAppend = ("append" : Str) := by decide +kernel
theorem n_pop : nPop = ("pop" : Str) := by decide +kernel
theorem n_get : nGet = ("get" : Str) := by decide +kernel
theorem n_startswith : nStartswith = ("startswith" : Str) := by decide +kernel
theorem methB_rule {M : Model} {ov : AV} {v : Value} {a : Str} {mt : Mt} {pl : Sem Bool} {Q : Value × List Value → Shared → Prop} (e : methOf ov σ a = some mt) (H : Here D c cn d ρ m fz news σ s.heap) (hv : VR (adr news) ov v) (h : Q (.builtin (mtName mt), [v]) s) :
    wpAny M A (getMethod v a pl) Q E s := by
  unfold methOf at e
  split at e
  · rename_i i
    split at e
    · rename_i xs hg
      obtain ⟨l, ws, nn, rfl, h1, h2, h3, h4⟩ := isList_of H hg hv
      have hd : ∀ a', Value.ref l = .ref a' → ∃ o, s.heap.get? a' = some o ∧ o.dict = none := fun a' q => by cases q; exact ⟨_, h2, rfl⟩
      split at e
      · rename_i q
        cases e
        rw [seq_iff.mp q, n_append]
        exact getMethod_builtin h3.typeIs PySem.F.plainAttrs_list PySem.F.slot_list_append PySem.F.type_list_append hd h
      · split at e
        · rename_i q
          cases e
          rw [seq_iff.mp q, n_pop]
          exact getMethod_builtin h3.typeIs PySem.F.plainAttrs_list PySem.F.slot_list_pop PySem.F.type_list_pop hd h
        · cases e
    · rename_i es hg
      obtain ⟨l, ob, rfl, h1, h2, ll, n, rfl, h3, nd⟩ := H.S.atV hg hv
      split at e
      · rename_i q
        cases e
        rw [seq_iff.mp q, n_get]
        exact getMethod_builtin ⟨_, h2, rfl⟩ PySem.F.plainAttrs_dict PySem.F.slot_dict_get PySem.F.type_dict_get (fun a' q => by cases q; exact ⟨_, h2, rfl⟩) h
      · cases e
    · cases e
  · obtain ⟨t, rfl⟩ := hv
    split at e
    · rename_i q
      cases e
      rw [seq_iff.mp q, n_startswith]
      exact GM.startswith h
    · cases e
  · cases e

theorem under_frames (A : Around) (C : Addr) (vs : List Value) : (A.under (.builtin "type.__call__" ⟨.ref C :: vs, []⟩)).frames = A.frames := by
  cases A with | mk hd dp fr gs u => cases fr <;> rfl
theorem under_depth (A : Around) (C : Addr) (vs : List Value) : (A.under (.builtin "type.__call__" ⟨.ref C :: vs, []⟩)).depth ≤ A.depth + 2 := by
  show A.depth + _ ≤ _
  have : (Code.builtin "type.__call__" ⟨.ref C :: vs, []⟩).weight ≤ 2 := by
    first | decide | (show 1 ≤ 2; decide) | (have : (Code.builtin "type.__call__" ⟨.ref C :: vs, []⟩).weight = 1 := by rfl
                                             omega)
  omega
theorem under_units (A : Around) (C : Addr) (vs : List Value) : (A.under (.builtin "type.__call__" ⟨.ref C :: vs, []⟩)).units ≤ A.units + 8 := by
  show A.units + _ ≤ _
  have : (Code.builtin "type.__call__" ⟨.ref C :: vs, []⟩).cUnits ≤ 8 := by
    first | decide | (have : (Code.builtin "type.__call__" ⟨.ref C :: vs, []⟩).cUnits = 1 := by rfl
                      omega)
  omega

theorem make_rule (O : D.Ok) (S : Snd D ih) {C : Nat} {cd : ClD} {vs : List AV} {vals : List Value} {x k : KE} {Q : Value → Shared → Prop} (e : makeV ih d C cd vs σ x k = true) (hcd : lkN D.G.cls C = some cd) (H : Here D c cn d ρ m fz news σ s.heap) (hrz : cn.rz = true)
    (hv : All2 (VR (adr news)) vs vals) (hQ : PostE D c cn d ρ m fz news k s Q) (hX : PostX D c m fz news x s E) : wpAny D.M c.A (call (.ref C) vals) Q E s := by
  have OC := O.cls C cd hcd
  unfold makeV at e
  split at e
  · rename_i hn
    have hn' := blt_lt hn
    -- the two new things upon the store
    have key : ∀ (o : AO) (xa dx : Addr) (xo : Obj) (h' : Heap), ORD D (adr news ++ [dx] ++ [xa]) o xo → Fr c.h₀ c.L h' m → News c.h₀ c.L h' ((xa, xo) :: (dx, dictOf [] 0) :: (news ++ fz)) → (∀ p ∈ news ++ fz, p.1 ≠ dx) → (∀ p ∈ news ++ fz, p.1 ≠ xa) → dx ≠ xa →
        Here D c cn d ρ m fz (news ++ [(dx, dictOf [] 0)] ++ [(xa, xo)]) ((σ.push (.dict [])).push o) h' := by
      intro o xa dx xo h' ho F' N' hf1 hf2 hne
      have H0 : Here D c cn d ρ m fz news σ h' := H.grow F' (fun p hp => N' p (.tail _ (.tail _ hp)))
      have H1 : Here D c cn d ρ m fz (news ++ [(dx, dictOf [] 0)]) (σ.push (.dict [])) h' := H0.push (o := .dict []) ⟨[], 0, rfl, .nil, by simp⟩ (by omega) F' (fun p hp => N' p (.tail _ hp)) hf1
      refine H1.push (o := o) (by rw [adr_app]; exact ho) (by show σ.n + 1 < 4000; omega) F' (fun p hp => ?_) (fun p hp => ?_)
      · simp only [List.mem_cons, List.mem_append, List.not_mem_nil, or_false] at hp
        rcases hp with hp | (hp | hp) | hp
        · exact hp ▸ N' _ (.head _)
        · exact N' _ (.tail _ (.tail _ (List.mem_append_left _ hp)))
        · exact hp ▸ N' _ (.tail _ (.head _))
        · exact N' _ (.tail _ (.tail _ (List.mem_append_right _ hp)))
      · simp only [List.mem_append, List.mem_cons, List.not_mem_nil, or_false] at hp
        rcases hp with (hp | hp) | hp
        · exact hf2 _ (List.mem_append_left _ hp)
        · rw [hp]; exact hne
        · exact hf2 _ (List.mem_append_right _ hp)
    have exn : ∀ (xa dx : Addr) (xo : Obj), Ex (adr news) (adr (news ++ [(dx, dictOf [] 0)] ++ [(xa, xo)])) := fun xa dx xo => ⟨[dx, xa], by simp [adr]⟩
    have vx : ∀ (xa dx : Addr) (xo : Obj), VR (adr (news ++ [(dx, dictOf [] 0)] ++ [(xa, xo)])) (.own (σ.n + 1)) (.ref xa) := fun xa dx xo => ⟨xa, by rw [← H.S.ln]; simp [adr], rfl⟩
    have dxat : ∀ (xa dx : Addr), (adr news ++ [dx] ++ [xa])[σ.n]? = some dx := fun xa dx => by rw [← H.S.ln]; simp [adr]
    split at e
    · rename_i q
      split at e
      · rename_i hb
        have hl := blt_lt hb
        refine call_exc H.F H.ok.X H.S.nw (OC.xn q) OC.ini.1 OC.ini.2 (by rw [← hv.length]; omega) (fun xa vs' sl h' F' N' hlt hsz hv1 => ?_)
        have H2 : Here D c cn d ρ m fz (news ++ [(xa, ({ cls := .ref C, data := .fields vs', slots := sl } : Obj))]) (σ.push (.exc0 C)) h' :=
          H.push (o := .exc0 C) ⟨vs', sl, rfl, hsz, hv1⟩ (by omega) F' N' (fun p hp => Nat.ne_of_lt (hlt p hp))
        have ex0 : Ex (adr news) (adr (news ++ [(xa, ({ cls := .ref C, data := .fields vs', slots := sl } : Obj))])) := ⟨_, adr_app ..⟩
        refine S.C (s := up s h' s.toks) e H2 hrz (.cons (vr_new H _ _) (hv.imp fun _ _ => VR.ex ex0)) (under_frames _ _ _) (H.ok.hh hrz) (under_depth _ _ _) (under_units _ _ _) (fun b σ' n' v h t ex' H' hv' e' => ?_) (hX.on ex0)
        dsimp only at e'
        split at e'
        · exact ⟨hv', hQ _ σ' n' _ h t (ex0.trans ex') H' ((vr_new H _ _).ex ex') e'⟩
        · cases e'
      · cases e
    · rename_i q
      refine call_cls H.F H.ok.X H.S.nw (OC.mks q) OC.ini.1 OC.ini.2 (fun xa dx h' F' N' hlt hlt2 => ?_)
      have H2 := key (.inst C σ.n) xa dx _ h' ⟨dx, dxat xa dx, rfl⟩ F' N' (fun p hp => Nat.ne_of_lt (hlt p hp)) (fun p hp => Nat.ne_of_lt (Nat.lt_trans (hlt p hp) hlt2)) (Nat.ne_of_lt hlt2)
      refine S.C (s := up s h' s.toks) e H2 hrz (.cons (vx xa dx _) (hv.imp fun _ _ => VR.ex (exn xa dx _))) (under_frames _ _ _) (H.ok.hh hrz) (under_depth _ _ _) (under_units _ _ _) (fun b σ' n' v h t ex' H' hv' e' => ?_) (hX.on (exn xa dx _))
      dsimp only at e'
      split at e'
      · exact ⟨hv', hQ _ σ' n' _ h t ((exn xa dx _).trans ex') H' ((vx xa dx _).ex ex') e'⟩
      · cases e'
  · cases e

theorem callV_rule (O : D.Ok) (I : IsnOk D) (T : TakeOk D) (S : Snd D ih) {f : AV} {fv : Value} {vs : List AV} {vals : List Value} {x k : KE} {Q : Value → Shared → Prop} (e : callV D.G ih d f vs σ x k = true) (H : Here D c cn d ρ m fz news σ s.heap) (hrz : cn.rz = true)
    (hf : VR (adr news) f fv) (hv : All2 (VR (adr news)) vs vals) (hQ : PostE D c cn d ρ m fz news k s Q) (hX : PostX D c m fz news x s E) : Kept D.M fv s.heap ∧ wpAny D.M c.A (call fv vals) Q E s := by
  unfold callV at e
  split at e
  · rename_i a
    obtain rfl : fv = .ref a := hf
    split at e
    · rename_i hb
      obtain rfl : a = D.G.take := Nat.eq_of_beq_eq_true hb
      split at e
      · cases e
      · exact ⟨kept_K H.X O.tkp, T e H hrz hv hQ⟩
    · split at e
      · rename_i cd hcd
        exact ⟨kept_K H.X (O.cls a cd hcd).kp, make_rule O S e hcd H hrz hv hQ hX⟩
      · split at e
        · rename_i hfn
          refine ⟨kept_fn H hfn, wpAny_call ?_⟩
          exact S.C e H hrz hv rfl (H.ok.hh hrz) (Nat.le_add_right _ _) (Nat.le_add_right _ _) hQ hX
        · cases e
  · rename_i b
    obtain rfl : fv = b.val := hf
    exact ⟨kept_bi b, callB_rule O I e H hv hQ⟩
  · cases e
end
end Mine
end

section
/-! the calls of a text -/
set_option maxRecDepth 100000
namespace Mine
open PySem PySem.W PySem.W.X PySem.Calls PyProof.Rows PySem.Spec

section
variable {D : Wd} {ih : Ev} {c : Cx} {cn : Cn} {d : Nat} {ρ : Loc} {m : Str → Option Value} {fz news : News'} {σ : St} {s : Shared} {A : Around} {E : Value → Shared → Prop}

theorem Call_meth {M : Model} {env : Env} {o : Expr} {name : Str} {apos pos : Pos} {args : List Expr} {Q : Value → Shared → Prop} (hc : isCallE o = false) (hl : Nat.beq apos.endLine pos.line = true) (hs : noStar args = true) (hn : args.length < 20)
    (h : wpAny M A (eval o env) (fun ov s₁ => wpAny M A (getMethod ov name (do return (← importBound o env).getD true)) (fun fx s₂ => wpAny M A (callWith pos fx.1 fx.2 (backTo pos (starEach args env)) []) Q E s₂) E s₁) E s) :
    wpAny M A (eval (.Call (.Attribute o name apos) args [] pos) env) Q E s := by
  have hb : attributeBase o name env (eval o env) = eval o env := by
    unfold attributeBase
    cases o <;> first | rfl | (cases hc; done)
  rw [arm_eval_Call, hb]
  refine wpAny_bind (wpAny_mono h (fun ov s₁ h₁ => wpAny_bind (wpAny_standAt ?_)) fun _ _ e => e)
  have hk : backToKw pos (keywordEach [] env) = [] := rfl
  have hall : (backTo pos (starEach args env)).all (fun x => !x.1) = true := by
    have := noStar_plain (env := env) (pos := pos) hs
    rw [List.all_eq_not_any_not]
    simpa using this
  have hform : methodCallForm (args.length + ([] : List Keyword).length) (backTo pos (starEach args env)) (backToKw pos (keywordEach [] env)) = true := by
    rw [hk]
    unfold methodCallForm
    rw [hall]
    simp
    omega
  have hpos : methodCallPos true o env apos pos = pure pos := by
    unfold methodCallPos
    have : (apos.endLine == pos.line) = true := by rw [Nat.eq_of_beq_eq_true hl]; exact beq_self_eq_true _
    simp [this]
  unfold methodCall
  rw [hform]
  refine wpAny_bind (wpAny_holding ?_)
  unfold calleeOf
  rw [if_pos rfl]
  refine wpAny_mono h₁ (fun fx s₂ h₂ => ?_) fun _ _ e => e
  refine wpAny_bind (wpAny_of_eq hpos ?_)
  rw [hk]
  exact h₂

/-- behind the callee: the arguments, the call -/
theorem callWith_es (S : Snd D ih) {f : Value} {first : List Value} {es : List Expr} {pos : Pos} {x : KE} {k : KEs} {Q : Value → Shared → Prop} (hs : noStar es = true) (e : ih.Es d cn es ρ σ x k = true) (H : Here D c cn d ρ m fz news σ s.heap) (hX : PostX D c m fz news x s E)
    (h : ∀ bs σ' news' vs h t, Ex (adr news) (adr news') → Here D c cn d ρ m fz news' σ' h → All2 (VR (adr news')) bs vs → k bs σ' = true → Kept D.M f h ∧ wpAny D.M c.A (call f (first ++ vs)) Q E (up s h t)) :
    wpAny D.M c.A (callWith pos f first (backTo pos (starEach es c.env)) []) Q E s := by
  refine callWith_of (P := fun h => Kept D.M f h) (by rw [noStar_plain hs]; rfl) (fun _ h => h) ?_
  refine evalArgs_es hs (S.Es e hs H (fun bs σ' n' vs h' t' ex H' hv e' => ?_) hX)
  exact h bs σ' n' vs h' t' ex H' hv e'

theorem evMeth_val (O : D.Ok) (I : IsnOk D) (T : TakeOk D) (S : Snd D ih) {o : Expr} {a : Str} {es : List Expr} {pos : Pos} {x k : KE} {Q : Value → Shared → Prop} (e : evMeth D.G ih d cn o a es ρ σ x k = true) (hs : noStar es = true) (hrz : cn.rz = true) (H : Here D c cn d ρ m fz news σ s.heap)
    (hQ : PostE D c cn d ρ m fz news k s Q) (hX : PostX D c m fz news x s E) {pl : Sem Bool} :
    wpAny D.M c.A (eval o c.env) (fun ov s₁ => wpAny D.M c.A (getMethod ov a pl) (fun fx s₂ => wpAny D.M c.A (callWith pos fx.1 fx.2 (backTo pos (starEach es c.env)) []) Q E s₂) E s₁) E s := by
  unfold evMeth at e
  refine S.E e H (fun ov σ1 n1 va h1 t1 ex1 H1 hv1 e1 => ?_) hX
  dsimp only at e1
  split at e1
  · rename_i mt hmt
    refine methB_rule (s := up s h1 t1) hmt H1 hv1 ?_
    refine callWith_es S (s := up s h1 t1) hs e1 H1 (hX.on ex1) (fun bs σ2 n2 vs h2 t2 ex2 H2 hv2 e2 => ⟨kept_builtin _, ?_⟩)
    exact callM_rule (s := up s h2 t2) O e2 H2 (hv1.ex ex2) hv2 (hQ.on (ex1.trans ex2))
  · split at e1
    · rename_i i _
      split at e1
      · rename_i C di hg
        split at e1
        · rename_i fv hf
          unfold findV at hf
          split at hf
          · rename_i es' hd
            split at hf
            · rename_i cd hcd
              split at hf
              · cases hf
              · rename_i hexc
                split at hf
                · rename_i v hlk
                  split at hf
                  · rename_i hm
                    cases hf
                    obtain ⟨xx, ox, dx, l, n, rfl, g1, II, g2, g3, hnd⟩ := inst_at (s := up s h1 t1) H1 (show instOf σ1 i = some (C, di, false) by unfold instOf; rw [hg]) hd hv1
                    have OC := O.cls C cd hcd
                    obtain ⟨c', hc, hr⟩ := (er_find g3).1 _ hlk
                    have pg := plainGet_of (OC.pg hexc a)
                    refine method_usual H1.X II pg.1 pg.2 (OC.fr _ hm) rfl ?_
                    refine get_own (s := up s h1 t1) H1.F H1.ok.X II (OC.pg hexc a) OC.hd (OC.fr _ hm) rfl hc (vr_handed hr) ?_
                    refine callWith_es S (s := up s h1 (t1 + 1)) hs e1 H1 (hX.on ex1) (fun bs σ2 n2 vs h2 t2 ex2 H2 hv2 e2 => ?_)
                    exact callV_rule (s := up s h2 t2) O I T S e2 H2 hrz (hr.ex ex2) hv2 (hQ.on (ex1.trans ex2)) (hX.on (ex1.trans ex2))
                  · cases hf
                · split at hf <;> cases hf
            · cases hf
          · cases hf
        · rename_i fa hf
          unfold findV at hf
          split at hf
          · rename_i es' hd
            split at hf
            · rename_i cd hcd
              split at hf
              · cases hf
              · rename_i hexc
                split at hf
                · split at hf <;> cases hf
                · rename_i hlk
                  split at hf
                  · rename_i f hm
                    cases hf
                    obtain ⟨xx, ox, dx, l, n, rfl, g1, II, g2, g3, hnd⟩ := inst_at (s := up s h1 t1) H1 (show instOf σ1 i = some (C, di, false) by unfold instOf; rw [hg]) hd hv1
                    have OC := O.cls C cd hcd
                    obtain ⟨m1, m2, m3⟩ := OC.ms _ _ hm
                    refine method_inst (s := up s h1 t1) H1.F H1.ok.X II (OC.pg hexc a) m1 m2 ((er_find g3).2 hlk) ?_
                    refine callWith_es S (s := up s h1 t1) hs e1 H1 (hX.on ex1) (fun bs σ2 n2 vs h2 t2 ex2 H2 hv2 e2 => ⟨kept_K H2.X m3, ?_⟩)
                    refine wpAny_call ?_
                    exact S.C (s := up s h2 t2) e2 H2 hrz (.cons (hv1.ex ex2) hv2) rfl (H2.ok.hh hrz) (Nat.le_add_right _ _) (Nat.le_add_right _ _) (hQ.on (ex1.trans ex2)) (hX.on (ex1.trans ex2))
                  · cases hf
            · cases hf
          · cases hf
        · cases e1
      · cases e1
    · cases e1

theorem evCall_val (O : D.Ok) (I : IsnOk D) (T : TakeOk D) (S : Snd D ih) {f : Expr} {es : List Expr} {kws : List Keyword} {pos : Pos} {x k : KE} {Q : Value → Shared → Prop} (e : evCall D.G ih d cn f es kws pos ρ σ x k = true) (H : Here D c cn d ρ m fz news σ s.heap)
    (hQ : PostE D c cn d ρ m fz news k s Q) (hX : PostX D c m fz news x s E) : wpAny D.M c.A (eval (.Call f es kws pos) c.env) Q E s := by
  unfold evCall at e
  split at e
  · split at e
    · rename_i hb
      obtain ⟨hb, hn⟩ := Bool.and_eq_true_iff.mp hb
      obtain ⟨hrz, hs⟩ := Bool.and_eq_true_iff.mp hb
      split at e
      · rename_i o a ap
        split at e
        · rename_i hq
          obtain ⟨q1, q2⟩ := Bool.or_eq_false_iff.mp hq
          exact Call_meth q1 (by simpa using q2) hs (blt_lt hn) (evMeth_val O I T S e hs hrz H hQ hX)
        · cases e
      · rename_i y p
        refine Call_ (name_rule (k := fun fv σ => ih.Es d cn es ρ σ x fun vs σ => callV D.G ih d fv vs σ x k) O e H (fun fv σ1 n1 va h1 t1 ex1 H1 hv1 e1 => ?_))
        dsimp only at e1
        refine callWith_es S (s := up s h1 t1) hs e1 H1 (hX.on ex1) (fun bs σ2 n2 vs h2 t2 ex2 H2 hv2 e2 => ?_)
        exact callV_rule (s := up s h2 t2) O I T S e2 H2 hrz (hv1.ex ex2) hv2 (hQ.on (ex1.trans ex2)) (hX.on (ex1.trans ex2))
      · cases e
    · cases e
  · cases e
end
end Mine
end

section
/-! iterators -/
set_option maxRecDepth 100000
namespace Mine
open PySem PySem.W PySem.W.X PySem.Calls PyProof.Rows PySem.Spec

section
variable {D : Wd} {ih : Ev} {c : Cx} {cn : Cn} {d : Nat} {ρ : Loc} {m : Str → Option Value} {fz news : News'} {σ : St} {s : Shared} {A : Around} {E : Value → Shared → Prop} {h h' : Heap} {a : Addr} {o o' : Obj}

noncomputable def Flds (o : Obj) : Prop := ∃ vs, o.data = .fields vs
theorem LocAt.dropit {ml : Str → Option Value} (l : LocAt c m ((a, o) :: fz) ml) (hd : Flds o) : LocAt c m fz ml := by
  rcases l with l | ⟨ob, es, ep, h1, h2, r⟩
  · exact .inl l
  · rcases List.mem_cons.mp h1 with e | h1
    · obtain ⟨vs, hd⟩ := hd
      obtain rfl : ob = o := congrArg Prod.snd e
      rw [hd] at h2; cases h2
    · exact .inr ⟨ob, es, ep, h1, h2, r⟩
theorem Rho.dropit {as : As} (r : Rho c ρ m ((a, o) :: fz) as) (hd : Flds o) : Rho c ρ m fz as := by
  obtain ⟨⟨ml, h1, h2⟩, h3⟩ := r
  exact ⟨⟨ml, h1.dropit hd, h2⟩, h3⟩
theorem RowIn.dropit {R : Addr} {ns : List Int} (r : RowIn R ns ((a, o) :: fz)) (hd : Flds o) : RowIn R ns fz := by
  obtain ⟨vs, n, h1, r⟩ := r
  rcases List.mem_cons.mp h1 with e | h1
  · obtain ⟨us, hd⟩ := hd
    have e2 := congrArg Prod.snd e
    dsimp only at e2
    rw [← e2] at hd; cases hd
  · exact ⟨vs, n, h1, r⟩
theorem Here.itDrop (H : Here D c cn d ρ m ((a, o) :: fz) news σ h) (hd : Flds o) : Here D c cn d ρ m fz news σ h := H.dropfz (H.rho.dropit hd) (H.S.rw.dropit hd)
theorem Here.itSame (H : Here D c cn d ρ m ((a, o) :: fz) news σ h) (hd : Flds o) (hs : Heap.SameBut a h h') (ho : h'.get? a = some o') : Here D c cn d ρ m ((a, o') :: fz) news σ h' := by
  obtain ⟨F', N'⟩ := H.fzSame hs ho
  exact ((H.itDrop hd).grow F' fun p hp => N' p (.tail _ hp)).addfz F' N' H.S.fz_off
theorem Here.itExt (H : Here D c cn d ρ m ((a, o) :: fz) news σ h) (hd : Flds o) (hs : Heap.ExtBut a h h') : Here D c cn d ρ m fz news σ h' := by
  have Na := H.fzNews (a, o) (.head _)
  have hf := H.S.fz_off
  refine (H.itDrop hd).grow ⟨H.F.ns.extBut hs (Ne.symm Na.2.1), fun b ob e => hs b ob (fun q => ?_) (H.F.keep b ob e), H.F.above⟩ (fun p hp => ?_)
  · rw [q, Na.2.2] at e; cases e
  · have P := H.fzNews p (.tail _ hp)
    exact ⟨hs _ _ (hf p hp) P.1, P.2⟩

theorem all2_none {α β : Type} {R : α → β → Prop} {l : List α} {m : List β} (x : All2 R l m) {i : Nat} (e : l[i]? = none) : m[i]? = none := by
  rw [List.getElem?_eq_none_iff] at e ⊢
  rw [← x.length]; exact e

theorem next_rule {i : It} {item : AV → It → Bool} {done : Bool} {Q : Option Value → Shared → Prop} (e : nextV i σ item done = true) (H : Here D c cn d ρ m ((a, o) :: fz) news σ s.heap) (ho : ItR (adr news) i o) (hh : A.handled = none)
    (h1 : ∀ v i' o' vv h t, item v i' = true → Here D c cn d ρ m ((a, o') :: fz) news σ h → ItR (adr news) i' o' → VR (adr news) v vv → Q (some vv) (up s h t))
    (h2 : ∀ h t, done = true → Here D c cn d ρ m fz news σ h → Q none (up s h t)) : wpAny D.M A (pyNext (.ref a)) Q E s := by
  have hat := (H.fzNews (a, o) (.head _)).1
  unfold nextV at e
  split at e
  · rename_i l j
    obtain ⟨la, g1, g2, g3⟩ := ho
    have hd : Flds o := ⟨_, g3⟩
    have hit : s.heap.IsListIter a la j := ⟨o, hat, g2, g3⟩
    split at e
    · rename_i xs hg
      obtain ⟨la', ob, k1, k2, k3, ws, n, rfl, k4⟩ := H.S.at hg
      rw [g1] at k2; cases k2
      have hl : s.heap.IsList la ws.toArray := ⟨_, k3, rfl, n, rfl⟩
      split at e
      · rename_i v hv
        obtain ⟨b, q1, q2⟩ := k4.get hv
        refine wpAny_pyNext_list_item hit hl (by simpa using q1) (fun h' hit' hs => ?_)
        obtain ⟨o', e1, e2, e3⟩ := hit'
        exact h1 v _ o' b h' s.toks e (H.itSame hd hs e1) ⟨la, g1, e2, e3⟩ q2
      · rename_i hv
        refine wpAny_pyNext_list_end hh hit hl (by have := all2_none k4 hv; simpa using this) (fun h' hs => ?_)
        exact h2 h' s.toks e (H.itExt hd hs)
    · cases e
  · rename_i x n
    obtain rfl : o = itR (x : Int) (n : Int) := ho
    have hd : Flds (itR (x : Int) (n : Int)) := ⟨_, rfl⟩
    split at e
    · refine wpAny_pyNext_range_end (x := (x : Int)) (left := ((0 : Nat) : Int)) (step := 1) hh hat (by simp) (fun h' hs => ?_)
      exact h2 h' s.toks e (H.itExt hd hs)
    · rename_i n
      refine wpAny_pyNext_range_item (x := (x : Int)) (left := ((n + 1 : Nat) : Int)) (step := 1) hat (by omega) (fun h' hit' hs => ?_)
      have q : h'.get? a = some (itR ((x + 1 : Nat) : Int) (n : Int)) := by
        unfold IsRangeIter at hit'
        rw [hit']
        show _ = some (itR _ _)
        unfold itR
        congr 4
        simp
      exact h1 (.int (Int.ofNat x)) (.rit (x + 1) n) _ _ h' (s.toks + 1) e (H.itSame hd hs q) rfl ⟨_, rfl⟩
  · rename_i x j
    obtain ⟨t, g1, g2⟩ := ho
    have hd : Flds o := ⟨_, g2⟩
    split at e
    · rename_i ch hc
      have hc' : x.cps[j]? = some ch := by simpa using hc
      rcases g1 with g1 | g1
      · refine wpAny_pyNext_ascii_item ⟨o, hat, g1, g2⟩ hc' (fun h' hit' hs => ?_)
        obtain ⟨o', e1, e2, e3⟩ := hit'
        exact h1 (.str ⟨#[ch]⟩) _ o' _ h' (s.toks + 1) e (H.itSame hd hs e1) ⟨t, .inl e2, e3⟩ ⟨_, rfl⟩
      · refine wpAny_pyNext_wide_item ⟨o, hat, g1, g2⟩ hc' (fun h' hit' hs => ?_)
        obtain ⟨o', e1, e2, e3⟩ := hit'
        exact h1 (.str ⟨#[ch]⟩) _ o' _ h' (s.toks + 1) e (H.itSame hd hs e1) ⟨t, .inr e2, e3⟩ ⟨_, rfl⟩
    · rename_i hc
      have hc' : x.cps[j]? = none := by simpa using hc
      rcases g1 with g1 | g1
      · exact wpAny_pyNext_ascii_end hh ⟨o, hat, g1, g2⟩ hc' (fun h' hs => h2 h' s.toks e (H.itExt hd hs))
      · exact wpAny_pyNext_wide_end hh ⟨o, hat, g1, g2⟩ hc' (fun h' hs => h2 h' s.toks e (H.itExt hd hs))

theorem iter_rule (O : D.Ok) (S : Snd D ih) {it : Expr} {x : KE} {k : It → St → Bool} {Q : Value → Shared → Prop} {E' : Value → Shared → Prop} (e : evIter D.G ih d cn it ρ σ x k = true) (H : Here D c cn d ρ m fz news σ s.heap) (hX : PostX D c m fz news x s E)
    (hQ : ∀ i σ' news' a o h t, Ex (adr news) (adr news') → Here D c cn d ρ m ((a, o) :: fz) news' σ' h → ItR (adr news') i o → k i σ' = true → Q (.ref a) (up s h t)) :
    wpAny D.M c.A (eval it c.env) (fun v s₁ => wpAny D.M A (pyIter v) Q E' s₁) E s ∧ ∀ x, foldedSetIterable it c.env x = pure x := by
  unfold evIter at e
  split at e
  · cases e
  · rename_i hset
    have hfold : ∀ x, foldedSetIterable it c.env x = pure x := fun x => by
      unfold foldedSetIterable
      cases it <;> first | rfl | (cases hset; done)
    refine ⟨?_, hfold⟩
    split at e
    · unfold evRange at e
      split at e
      · rename_i rg p n pos _
        split at e
        · rename_i hn
          refine Call_ (name_rule (k := fun fv σ => match fv with | .bi .range => ih.E d cn n ρ σ x _ | _ => false) O e H (fun fv σ1 n1 va h1 t1 ex1 H1 hv1 e1 => ?_))
          dsimp only at e1
          split at e1
          · obtain rfl : va = .type "range" := hv1
            have hns : noStar [n] = true := by unfold noStar; rw [hn]; rfl
            refine callWith_of (P := fun h => Kept D.M (.type "range") h) (by rw [noStar_plain hns]; rfl) (fun _ h => h) ?_
            refine evalArgs_es hns (args_cons (S.E e1 (s := up s h1 t1) H1 (fun b σ2 n2 vb h2 t2 ex2 H2 hv2 e2 => ?_) (hX.on ex1)) (spl_cons hn))
            refine args_nil ⟨kept_bi .range, ?_⟩
            dsimp only at e2
            split at e2
            · rename_i mm
              obtain ⟨tt, rfl⟩ := hv2
              split at e2
              · rename_i hr
                simp only [Bool.and_eq_true, decide_eq_true_eq] at hr
                obtain ⟨q, rfl⟩ : ∃ q : Nat, mm = (q : Int) := ⟨mm.toNat, by omega⟩
                have hq : q < 1000 := by omega
                refine call_range_1 ?_
                refine wpAny_pyIter_range (IsRange.new _ _ _ _ _ _ _) (small_one (by omega) (by omega) (by omega) (by omega)) ?_
                have H3 := H2.grow (h' := h2.push { cls := .type "range", data := .fields #[.int 0 t2, .int (q : Int) tt, .int 1 (t2 + 1)] }) (H2.F.push _) (fun p hp => News.push H2.F H2.S.nw _ rfl p (.tail _ hp))
                have hsz : Builtin.Range.rangeSize 0 (q : Int) 1 = (q : Int) := by rw [rangeSize_one]; split <;> omega
                rw [hsz]
                exact hQ (.rit 0 q) σ2 n2 _ _ _ (t2 + 1 + 1) (ex1.trans ex2) (H3.pushfz (itR ((0 : Nat) : Int) (q : Int)) rfl) rfl e2
              · cases e2
            · cases e2
          · cases e1
        · cases e
      · cases e
    · refine S.E e H (fun v σ1 n1 va h1 t1 ex1 H1 hv1 e1 => ?_) hX
      dsimp only at e1
      split at e1
      · rename_i i
        split at e1
        · rename_i xs hg
          obtain ⟨l, ob, k1, k2, k3, ws, n, rfl, k4⟩ := H1.S.at hg
          obtain ⟨l', k5, rfl⟩ := hv1
          rw [k2] at k5; cases k5
          refine wpAny_pyIter_list (s := up s h1 t1) ⟨_, k3, rfl, n, rfl⟩ ?_
          exact hQ (.lit i 0) σ1 n1 _ _ _ t1 ex1 (H1.pushfz { cls := .type "list_iterator", data := .fields #[.ref l, .int 0 0] } rfl) ⟨l, k2, rfl, rfl⟩ e1
        · cases e1
      · rename_i y
        obtain ⟨t, rfl⟩ := hv1
        refine wpAny_pyIter_strU (s := up s h1 t1) ?_
        refine hQ (.sit y 0) σ1 n1 _ _ _ t1 ex1 (H1.pushfz { cls := .type (strIterType y), data := .fields #[.str y t, .int 0 0] } rfl) ⟨t, ?_, rfl⟩ e1
        show Value.type _ = _ ∨ Value.type _ = _
        unfold strIterType
        split
        · exact .inl rfl
        · exact .inr rfl
      · cases e1
end
end Mine
end

section
/-! comprehensions -/
set_option maxRecDepth 100000
namespace Mine
open PySem PySem.W PySem.W.X PySem.Calls PyProof.Rows PySem.Spec

section
variable {D : Wd} {ih : Ev} {c : Cx} {cn : Cn} {d : Nat} {ρ : Loc} {m : Str → Option Value} {fz fz' news : News'} {σ : St} {s : Shared} {A : Around} {E : Value → Shared → Prop} {h h' : Heap} {a : Addr} {o o' : Obj}

theorem nodupN_mem : ∀ {l : List (Str × NameKind)}, nodupN l = true → ∀ {x k}, (x, k) ∈ l → lk l x = some k
  | [], _, x, k, h => by cases h
  | p :: r, hn, x, k, h => by
    unfold nodupN at hn
    split at hn
    · cases hn
    · rename_i q
      rw [lk_cons]
      rcases List.mem_cons.mp h with e | h
      · subst e; simp only; rw [seq_self]; rfl
      · have ih := nodupN_mem hn h
        cases z : seq p.1 x with
        | true => rw [seq_iff.mp z, ih] at q; cases q
        | false => exact ih
theorem noCells_mem : ∀ {l : List (Str × NameKind)}, noCells l = true → ∀ x ∈ l, x.2 ≠ .cell
  | [], _, x, h => by cases h
  | p :: r, hn, x, h => by
    unfold noCells at hn
    split at hn
    · cases hn
    · rename_i q
      rcases List.mem_cons.mp h with e | h
      · subst e; exact q
      · exact noCells_mem hn x h
theorem lookup_relabel {env : Env} (x : Str) : ∀ names : List (Str × NameKind), (names.map fun (n, k) => if (k == NameKind.free && env.scope.kind == .function && env.kindOf n == some .cell) then (n, NameKind.cell) else (n, k)).lookup x =
    (names.lookup x).map fun k => if (k == NameKind.free && env.scope.kind == .function && env.kindOf x == some .cell) then NameKind.cell else k
  | [] => rfl
  | (n, k) :: r => by
    have ih := lookup_relabel (env := env) x r
    show List.lookup x ((if (k == NameKind.free && env.scope.kind == .function && env.kindOf n == some .cell) = true then (n, NameKind.cell) else (n, k)) :: _) = _
    cases hx : x == n with
    | true =>
      have := beq_iff_eq.mp hx
      subst this
      by_cases hc : (k == NameKind.free && env.scope.kind == .function && env.kindOf x == some .cell) = true
      · rw [if_pos hc]; simp only [List.lookup_cons, hx, Option.map_some]; rw [if_pos hc]
      · rw [if_neg hc]; simp only [List.lookup_cons, hx, Option.map_some]; rw [if_neg hc]
    | false =>
      by_cases hc : (k == NameKind.free && env.scope.kind == .function && env.kindOf n == some .cell) = true
      · rw [if_pos hc]; simp only [List.lookup_cons, hx]; exact ih
      · rw [if_neg hc]; simp only [List.lookup_cons, hx]; exact ih
theorem keepC_some : ∀ {l : List (Str × NameKind)} {ρ' : Loc}, keepC ρ l = some ρ' → (∀ x i, lk ρ' x = some (.cell i) → lk ρ x = some (.cell i) ∧ (x, NameKind.free) ∈ l) ∧ (∀ x a, lk ρ' x ≠ some (.val a)) ∧ (∀ x, (x, NameKind.free) ∈ l → ∃ i, lk ρ x = some (.cell i))
  | [], ρ', e => by cases e; exact ⟨fun x i h => (by cases h), fun x a h => (by cases h), fun x h => (by cases h)⟩
  | (y, k) :: r, ρ', e => by
    unfold keepC at e
    split at e
    · split at e
      · rename_i i hi
        split at e
        · rename_i l hl
          cases e
          obtain ⟨h1, h2, h3⟩ := keepC_some hl
          refine ⟨fun x j h => ?_, fun x b h => ?_, fun x h => ?_⟩
          · rw [lk_cons] at h
            cases z : seq y x with
            | true =>
              rw [z] at h; cases h
              rw [← seq_iff.mp z]
              exact ⟨hi, .head _⟩
            | false => rw [z] at h; exact ⟨(h1 x j h).1, .tail _ (h1 x j h).2⟩
          · rw [lk_cons] at h
            cases z : seq y x with
            | true => rw [z] at h; cases h
            | false => rw [z] at h; exact h2 x b h
          · rcases List.mem_cons.mp h with q | h
            · cases q; exact ⟨i, hi⟩
            · exact h3 x h
        · cases e
      · cases e
    · rename_i hk
      obtain ⟨h1, h2, h3⟩ := keepC_some e
      refine ⟨fun x j h => ⟨(h1 x j h).1, .tail _ (h1 x j h).2⟩, h2, fun x h => ?_⟩
      rcases List.mem_cons.mp h with q | h
      · exact absurd (congrArg Prod.snd q).symm hk
      · exact h3 x h

theorem forIn_yield {α β : Type} {f : α → β → Sem (ForInStep β)} {g : α → β → β} : ∀ (l : List α) (b : β), (∀ x ∈ l, ∀ b, f x b = pure (.yield (g x b))) → forIn l b f = (pure (l.foldl (fun b x => g x b) b) : Sem β)
  | [], b, _ => rfl
  | x :: l, b, h => by
    rw [List.forIn_cons, h x (.head _)]
    exact forIn_yield l (g x b) fun y hy => h y (.tail _ hy)
theorem closureFor_eq {scope : Scope} {env : Env} (hall : ∀ x, (x, NameKind.free) ∈ scope.names → ∃ a, env.cells.lookup x = some a) :
    ∃ cl, closureFor scope env = pure cl ∧ ∀ x, (x, NameKind.free) ∈ scope.names → cl.lookup x = env.cells.lookup x := by
  refine ⟨scope.names.foldl (fun b x => if x.2 == .free then (x.1, (env.cells.lookup x.1).getD 0) :: b else b) [], ?_, ?_⟩
  · simp only [closureFor]
    rw [forIn_yield (g := fun (x : Str × NameKind) b => if x.2 == .free then (x.1, (env.cells.lookup x.1).getD 0) :: b else b) scope.names [] (fun x hx b => ?_)]
    · rfl
    · obtain ⟨n, k⟩ := x
      dsimp only
      cases hk : k == NameKind.free with
      | true =>
        have := beq_iff_eq.mp hk
        subst this
        obtain ⟨a, ha⟩ := hall n hx
        unfold cellOf
        rw [ha]
        rfl
      | false => rfl
  · have key : ∀ (l : List (Str × NameKind)) (b : List (Str × Addr)), (∀ x, (x, NameKind.free) ∈ l → ∃ a, env.cells.lookup x = some a) → (∀ x a, b.lookup x = some a → env.cells.lookup x = some a) →
        (∀ x a, (l.foldl (fun b x => if x.2 == .free then (x.1, (env.cells.lookup x.1).getD 0) :: b else b) b).lookup x = some a → env.cells.lookup x = some a) ∧
        (∀ x, (x, NameKind.free) ∈ l ∨ (b.lookup x).isSome = true → ((l.foldl (fun b x => if x.2 == .free then (x.1, (env.cells.lookup x.1).getD 0) :: b else b) b).lookup x).isSome = true) := by
      intro l
      induction l with
      | nil => intro b _ hb; exact ⟨hb, fun x h => h.elim (fun h => by cases h) id⟩
      | cons p r ih =>
        intro b hl hb
        obtain ⟨n, k⟩ := p
        rw [List.foldl_cons]
        cases hk : k == NameKind.free with
        | true =>
          have := beq_iff_eq.mp hk
          subst this
          obtain ⟨a, ha⟩ := hl n (.head _)
          simp only [beq_self_eq_true, if_true, ha, Option.getD_some]
          have := ih ((n, a) :: b) (fun x hx => hl x (.tail _ hx)) (fun x a' h => by
            rw [List.lookup_cons] at h
            cases z : x == n with
            | true => rw [z] at h; cases h; rw [beq_iff_eq.mp z]; exact ha
            | false => rw [z] at h; exact hb x a' h)
          refine ⟨this.1, fun x hx => this.2 x ?_⟩
          rw [List.lookup_cons]
          cases z : x == n with
          | true => exact .inr rfl
          | false =>
            rcases hx with hx | hx
            · rcases List.mem_cons.mp hx with q | hx
              · cases q; rw [beq_self_eq_true] at z; cases z
              · exact .inl hx
            · exact .inr hx
        | false =>
          have hne : k ≠ NameKind.free := fun q => by rw [q] at hk; cases hk
          simp only [Bool.false_eq_true, if_false]
          have := ih b (fun x hx => hl x (.tail _ hx)) hb
          refine ⟨this.1, fun x hx => this.2 x ?_⟩
          rcases hx with hx | hx
          · rcases List.mem_cons.mp hx with q | hx
            · exact absurd (congrArg Prod.snd q).symm hne
            · exact .inl hx
          · exact .inr hx
    obtain ⟨k1, k2⟩ := key scope.names [] hall (fun x a h => by cases h)
    intro x hx
    have := k2 x (.inl hx)
    obtain ⟨b, hb⟩ := Option.isSome_iff_exists.mp this
    rw [hb]; exact (k1 x b hb).symm

theorem Here.perm (H : Here D c cn d ρ m fz news σ h) (p : fz.Perm fz') : Here D c cn d ρ m fz' news σ h := by
  have hm : ∀ q, q ∈ fz' → q ∈ fz := fun q hq => p.mem_iff.mpr hq
  refine ⟨H.ok, H.F, ⟨?_, H.S.zl, fun q hq => H.S.nw q ?_, ?_, H.S.ln, H.S.lt, H.S.ob⟩, ⟨?_, H.rho.cel⟩⟩
  · obtain ⟨vs, n, h1, r⟩ := H.S.rw; exact ⟨vs, n, p.mem_iff.mp h1, r⟩
  · rcases List.mem_append.mp hq with hq | hq
    · exact List.mem_append_left _ hq
    · exact List.mem_append_right _ (hm q hq)
  · have := H.S.nd
    exact (((List.Perm.refl news).append p).map _).nodup_iff.mp this
  · obtain ⟨ml, l, r⟩ := H.rho.loc
    refine ⟨ml, ?_, r⟩
    rcases l with l | ⟨ob, es, ep, h1, r⟩
    · exact .inl l
    · exact .inr ⟨ob, es, ep, p.mem_iff.mp h1, r⟩

theorem iter_again {as : As} {i : It} {Q : Value → Shared → Prop} (hi : ItR as i o) (ho : s.heap.get? a = some o) (h : Q (.ref a) s) : wpAny D.M A (pyIter (.ref a)) Q E s := by
  cases i with
  | lit l j => obtain ⟨la, g1, g2, g3⟩ := hi; exact wpAny_pyIter_listiter ⟨o, ho, g2, g3⟩ h
  | rit x n => obtain rfl : o = itR (x : Int) (n : Int) := hi; exact wpAny_pyIter_rangeiter ho h
  | sit x j =>
    obtain ⟨t, g1, g2⟩ := hi
    rcases g1 with g1 | g1
    · exact wpAny_pyIter_striter_ascii ⟨o, ho, g1, g2⟩ h
    · exact wpAny_pyIter_striter_wide ⟨o, ho, g1, g2⟩ h
theorem iter_fold {G : Sg} {it : Expr} {x : KE} {k : It → St → Bool} {env : Env} (e : evIter G ih d cn it ρ σ x k = true) : ∀ x, foldedSetIterable it env x = pure x := by
  unfold evIter at e
  split at e
  · cases e
  · rename_i hset
    intro x
    unfold foldedSetIterable
    cases it <;> first | rfl | (cases hset; done)
theorem append_rule (O : D.Ok) {l : Nat} {b : AV} {acc v : Value} {k : St → Bool} {Q : Shared → Prop} (e : appendV l b σ k = true) (H : Here D c cn d ρ m fz news σ s.heap) (ha : VR (adr news) (.own l) acc) (hv : VR (adr news) b v)
    (hQ : ∀ σ' news' h t, Ex (adr news) (adr news') → Here D c cn d ρ m fz news' σ' h → k σ' = true → Q (up s h t)) : wpAny D.M A (call (.builtin "list.append") [acc, v]) (fun _ s' => Q s') E s := by
  have e' : callM .append (.own l) [b] σ (fun _ σ => k σ) = true := by
    unfold appendV at e
    split at e
    · rename_i ys hg
      unfold callM listAt
      dsimp only
      rw [hg]
      exact e
    · cases e
  exact callM_rule (mt := .append) O e' H ha (.cons hv .nil) (fun b' σ' n' v' h' t' ex H' hv' e'' => hQ σ' n' h' t' ex H' e'')
end
end Mine
end

section
set_option maxRecDepth 100000
namespace Mine
open PySem PySem.W PySem.W.X PySem.Calls PyProof.Rows PySem.Spec

section
variable {D : Wd} {ih : Ev} {c : Cx} {cn : Cn} {d : Nat} {ρ ρ' : Loc} {m : Str → Option Value} {fz fz' news : News'} {σ : St} {s : Shared} {A : Around} {E : Value → Shared → Prop} {h h' : Heap} {a : Addr} {o o' : Obj}

noncomputable abbrev Cx.comp (c : Cx) (sc : Scope) (cl : List (Str × Addr)) (C : Addr) : Cx := { c with env := compEnvC sc cl C c.env }
theorem isFun_eq {k : ScopeKind} (h : isFun k = true) : k = .function := by cases k <;> first | rfl | (cases h; done)
theorem comp_ok {sc : Scope} {cl : List (Str × Addr)} {C : Addr} (hok : c.Ok D cn d) (hf : isFun sc.kind = true) (hdbg : (lk sc.names nDebug).isNone = true) : (c.comp sc cl C).Ok D ⟨sc.names, cn.rz⟩ d := by
  have kd : ∀ x, (c.comp sc cl C).env.kindOf x = (sc.names.lookup x).map fun k => if (k == NameKind.free && c.env.scope.kind == .function && c.env.kindOf x == some .cell) then NameKind.cell else k := fun x => lookup_relabel x sc.names
  refine ⟨hok.X, hok.H, hok.TR, hok.B, hok.hA, hok.hf, hok.hfk, hok.ef, isFun_eq hf, hok.hg, hok.hb, ?_, fun x hx => ?_, fun x hx => ?_, hok.dep, hok.uni, hok.hh, hok.dl, hok.seer, hok.top⟩
  · rw [kd, ← lk_lookup, Option.isNone_iff_eq_none.mp hdbg]; rfl
  · rw [kd, ← lk_lookup, show lk sc.names x = _ from hx]; rfl
  · rw [kd, ← lk_lookup, show lk sc.names x = _ from hx]; rfl
theorem comp_rho {sc : Scope} {cl : List (Str × Addr)} {C : Addr} {as : As} {ml : Str → Option Value} (hok : c.Ok D cn d) (hr : Rho c ρ m fz as) (hn : nodupN sc.names = true) (hk : keepC ρ sc.names = some ρ')
    (hcl : ∀ x, (x, NameKind.free) ∈ sc.names → cl.lookup x = c.env.cells.lookup x) (hl : LocAt (c.comp sc cl C) m fz' ml) : Rho (c.comp sc cl C) ρ' m fz' as := by
  have kd : ∀ x, (c.comp sc cl C).env.kindOf x = (sc.names.lookup x).map fun k => if (k == NameKind.free && c.env.scope.kind == .function && c.env.kindOf x == some .cell) then NameKind.cell else k := fun x => lookup_relabel x sc.names
  obtain ⟨k1, k2, k3⟩ := keepC_some hk
  refine ⟨⟨ml, hl, fun x b hx => absurd hx (k2 x b)⟩, fun x i hx => ?_⟩
  obtain ⟨q1, q2⟩ := k1 x i hx
  obtain ⟨r1, r2⟩ := hr.cel x i q1
  refine ⟨?_, ?_⟩
  · rw [kd, ← lk_lookup, nodupN_mem hn q2, r1, hok.hk]; rfl
  · show ∃ a, cl.lookup x = some a ∧ _
    rw [hcl x q2]; exact r2
/-- a frame's thing let go -/
theorem Here.outExt (H : Here D c cn d ρ m ((a, o) :: fz) news σ h) (hr : Rho c ρ m fz (adr news)) (rw : RowIn D.R D.ns fz) (hs : Heap.ExtBut a h h') : Here D c cn d ρ m fz news σ h' := by
  have Na := H.fzNews (a, o) (.head _)
  have hf := H.S.fz_off
  refine (H.dropfz hr rw).grow ⟨H.F.ns.extBut hs (Ne.symm Na.2.1), fun b ob e => hs b ob (fun q => ?_) (H.F.keep b ob e), H.F.above⟩ (fun p hp => ?_)
  · rw [q, Na.2.2] at e; cases e
  · have P := H.fzNews p (.tail _ hp)
    exact ⟨hs _ _ (hf p hp) P.1, P.2⟩
theorem RowIn.dropDict {R : Addr} {ns : List Int} (r : RowIn R ns ((a, o) :: fz)) {es : Array DictEntry} {ep : Nat} (hd : o.data = .dict es ep) : RowIn R ns fz := by
  obtain ⟨vs, n, h1, r⟩ := r
  rcases List.mem_cons.mp h1 with e | h1
  · have e2 := congrArg Prod.snd e
    dsimp only at e2
    rw [← e2] at hd; cases hd
  · exact ⟨vs, n, h1, r⟩

/-- the comprehension's own frame changes -/
theorem comp_bind {sc : Scope} {cl : List (Str × Addr)} {C : Addr} {cn' : Cn} {ml : Str → Option Value} {y : Str} {v : Value} {b : AV} (H : Here D (c.comp sc cl C) cn' d ρ m ((C, o) :: fz) news σ h)
    (hns : h.Ns C ml) (hv : VR (adr news) b v) (hy : (c.comp sc cl C).env.kindOf y = some .local) (hnv : ∀ x a, lk ρ x ≠ some (.val a))
    (hns' : h'.Ns C (fun x => if x = y then some v else ml x)) (hs : Heap.SameBut C h h') : ∃ o', Here D (c.comp sc cl C) cn' d ((y, .val b) :: ρ) m ((C, o') :: fz) news σ h' := by
  obtain ⟨o1, es1, ep1, g1, g2, g3⟩ := hns
  obtain ⟨o', es, ep, k1, k2, k3, k4⟩ := id hns'
  have Nc := H.fzNews (C, o) (.head _)
  have : o1 = o := by have := Nc.1; dsimp only at this; rw [g1] at this; injection this
  subst this
  obtain ⟨F', N'⟩ := H.fzSame hs k1
  have rw := H.S.rw.dropDict g2
  refine ⟨o', H.ok, F', (H.S.dropfz rw).addfz N' H.S.fz_off, ⟨_, .inr ⟨o', es, ep, .head _, k2, k3, k4⟩, fun x a hx => ?_⟩, fun x i hx => ?_⟩
  · rw [lk_cons] at hx
    dsimp only at hx
    cases z : seq y x with
    | true =>
      rw [z] at hx; cases hx
      have := seq_iff.mp z
      subst this
      exact ⟨hy, v, by rw [if_pos rfl], hv⟩
    | false => rw [z] at hx; exact absurd hx (hnv x a)
  · rw [lk_cons] at hx
    dsimp only at hx
    cases z : seq y x with
    | true => rw [z] at hx; cases hx
    | false => rw [z] at hx; exact H.rho.cel x i hx

theorem comp_core {n : Nat} (O : D.Ok) (S : ∀ j, j ≤ n → Snd D (ev D.G j)) {elt : Expr} {gens : List Comprehension} {sc : Scope} {pos pos' : Pos} {use : Option (Value → Sem Unit)} {x k : KE} {Q : Value → Shared → Prop}
    (e : evComp D.G (ev D.G n) d cn elt gens sc ρ σ x k = true) (H : Here D c cn d ρ m fz news σ s.heap) (hX : PostX D c m fz news x s E)
    (hend : ∀ C oC ml acc l σ' n' h t, Ex (adr news) (adr n') → Here D c cn d ρ m ((C, oC) :: fz) n' σ' h → h.Ns C ml → VR (adr n') (.own l) acc → k (.own l) σ' = true → compPost D.M c.A E use Q acc C (.ok .next) (up s h t)) :
    wpAny D.M c.A (comprehension (.ListComp elt gens sc pos) sc c.env pos' (newList []) false (firstIter gens c.env) use) Q E s := by
  unfold evComp at e
  split at e
  · rename_i y yp it ifs
    split at e
    · rename_i hy
      split at e
      · rename_i hb
        simp only [Bool.and_eq_true] at hb
        obtain ⟨⟨⟨⟨hrz, hfn⟩, hnd⟩, hnc⟩, hdbg⟩ := hb
        have hh : c.A.handled = none := H.ok.hh hrz
        split at e
        · rename_i ρ' hk
          obtain ⟨k1, k2, k3⟩ := keepC_some hk
          obtain ⟨cl, hcl, hcl'⟩ := closureFor_eq (scope := sc) (env := c.env) (fun z hz => by
            obtain ⟨i, hi⟩ := k3 z hz
            obtain ⟨_, a, ha, _⟩ := H.rho.cel z i hi
            exact ⟨a, ha⟩)
          have hmem : ∀ x ∈ sc.names, x.2 = .local → sc.names.lookup x.1 = some .local := fun z hz hl => by
            rw [← lk_lookup, nodupN_mem hnd (show (z.1, z.2) ∈ sc.names from hz), hl]
          have hloc : ∀ C', ((compEnvC sc cl C' c.env).scope.kind == .class || ((compEnvC sc cl C' c.env).scope.kind == .module && (compEnvC sc cl C' c.env).locals != (compEnvC sc cl C' c.env).globals)) = false := fun C' => by
            rw [show (compEnvC sc cl C' c.env).scope.kind = .function from isFun_eq hfn]; rfl
          refine wpAny_comprehension_free rfl (iter_fold e) hcl (isFun_eq hfn) hmem ?_
          refine (iter_rule (A := c.A) O (S n (Nat.le_refl _)) e H hX (fun i σ1 n1 a o h1 t1 ex1 H1 hi e1 => ?_)).1
          refine mk_list (s := up s h1 t1) H1 e1 .nil (Nat.zero_le _) (fun b σ2 n2 v h2 t2 ex2 H2 hv2 e2 => ?_)
          split at e2
          · rename_i l
            refine wpAny_newFunctionEnv (noCells_mem hnc) (by intro z hz; cases hz) (fun h3 hns hsb => ?_) (isFun_eq hfn)
            dsimp only at hns hsb ⊢
            obtain ⟨oC, es, ep, g1, g2, g3, g4⟩ := id hns
            have Hp := H2.pushfz { cls := .type "dict", data := .dict #[] } rfl
            obtain ⟨F', N'⟩ := Hp.fzSame hsb g1
            have H3 : Here D (c.comp sc cl h2.objs.size) ⟨sc.names, cn.rz⟩ d ρ' m ((h2.objs.size, oC) :: (a, o) :: fz) n2 σ2 h3 := by
              refine ⟨comp_ok H.ok hfn hdbg, F', H2.S.addfz N' Hp.S.fz_off, ?_⟩
              exact comp_rho H.ok (H.rho.ex (ex1.trans ex2)) hnd hk hcl' (.inr ⟨oC, es, ep, .head _, g2, g3, g4⟩)
            have hi3 : ItR (adr n2) i o := by
              cases i with
              | lit l j => obtain ⟨la, g1, g2⟩ := hi; exact ⟨la, ex2.get g1, g2⟩
              | rit x n => exact hi
              | sit x j => exact hi
            have hyk : (c.comp sc cl h2.objs.size).env.kindOf y = some .local := H3.ok.nml y hy
            have loop : ∀ s₃ : Shared, s₃ = up s h3 t2 → codeAny D.M c.A (.compLoop (.ListComp elt [⟨.Name y yp, it, ifs, 0⟩] sc pos) 0 (.ref a) v (compEnvC sc cl h2.objs.size c.env)) (compPost D.M c.A E use Q v h2.objs.size) s₃ := by
              rintro s₃ rfl
              refine codeAny_compLoop_tests (I := fun j s' => j ≤ n ∧ ∃ i σ' n' o oC ml h t, s' = up s h t ∧ Ex (adr n2) (adr n') ∧ Here D (c.comp sc cl h2.objs.size) ⟨sc.names, cn.rz⟩ d ρ' m ((h2.objs.size, oC) :: (a, o) :: fz) n' σ' h ∧
                ItR (adr n') i o ∧ h.Ns h2.objs.size ml ∧ (ev D.G j).P d ⟨sc.names, cn.rz⟩ elt y ifs i l ρ' σ' k = true) (fun j s' hI => ?_) n ⟨Nat.le_refl _, i, σ2, n2, o, oC, _, h3, t2, rfl, Ex.refl _, H3, hi3, hns, e2⟩ (fun _ => rfl)
              obtain ⟨hj, i, σ4, n4, o4, oC4, ml, h4, t4, rfl, ex4, H4, hi4, hns4, e4⟩ := hI
              cases j with
              | zero => cases e4
              | succ j =>
                have Sj := S j (Nat.le_of_succ_le hj)
                have e4' : evP (ev D.G j) d ⟨sc.names, cn.rz⟩ elt y ifs i l ρ' σ4 k = true := e4
                unfold evP at e4'
                refine next_rule (s := up s h4 t4) e4' (H4.perm (.swap _ _ _)) hi4 hh (fun b i' o' vv h5 t5 e5 H5 hi5 hv5 => ?_) (fun h5 t5 e5 H5 => ?_)
                · have H5' := H5.perm (.swap _ _ _)
                  have hns5 : h5.Ns h2.objs.size ml := by
                    obtain ⟨q1, q2, q3, q4, q5⟩ := hns4
                    have w1 := (H4.fzNews _ (.head _)).1
                    have w2 := (H5'.fzNews _ (.head _)).1
                    dsimp only at w1 w2
                    rw [w1] at q4; cases q4
                    exact ⟨_, q2, q3, w2, q5⟩
                  refine wpAny_assign_Name (wpAny_storeName_local hyk (show h5.Ns (compEnvC sc cl h2.objs.size c.env).locals ml from hns5) (fun h6 hns6 hs6 => ?_) (hloc _))
                  replace hns6 : h6.Ns h2.objs.size (fun x => if x = y then some vv else ml x) := hns6
                  obtain ⟨oC6, H6⟩ := comp_bind H5' hns5 hv5 hyk k2 hns6 hs6
                  have back : ∀ {σ7 : St} {n7 : News'} {h7 : Heap}, Ex (adr n4) (adr n7) → Here D (c.comp sc cl h2.objs.size) ⟨sc.names, cn.rz⟩ d ((y, .val b) :: ρ') m ((h2.objs.size, oC6) :: (a, o') :: fz) n7 σ7 h7 → (ev D.G j).P d ⟨sc.names, cn.rz⟩ elt y ifs i' l ρ' σ7 k = true → ∀ t7,
                      ∃ mm, mm < j + 1 ∧ mm ≤ n ∧ ∃ i σ' n' o oC ml h t, up s h7 t7 = up s h t ∧ Ex (adr n2) (adr n') ∧ Here D (c.comp sc cl h2.objs.size) ⟨sc.names, cn.rz⟩ d ρ' m ((h2.objs.size, oC) :: (a, o) :: fz) n' σ' h ∧
                        ItR (adr n') i o ∧ h.Ns h2.objs.size ml ∧ (ev D.G mm).P d ⟨sc.names, cn.rz⟩ elt y ifs i l ρ' σ' k = true := by
                    intro σ7 n7 h7 ex7 H7 e7 t7
                    have hi7 : ItR (adr n7) i' o' := by
                      cases i' with
                      | lit l j => obtain ⟨la, g1, g2⟩ := hi5; exact ⟨la, ex7.get g1, g2⟩
                      | rit x n => exact hi5
                      | sit x j => exact hi5
                    have hns7 : h7.Ns h2.objs.size (fun x => if x = y then some vv else ml x) := by
                      obtain ⟨q1, q2, q3, q4, q5⟩ := hns6
                      have w1 := (H6.fzNews _ (.head _)).1
                      have w2 := (H7.fzNews _ (.head _)).1
                      dsimp only at w1 w2
                      rw [w1] at q4; cases q4
                      exact ⟨_, q2, q3, w2, q5⟩
                    obtain ⟨q1, q2, q3, q4, q5, q6, q7⟩ := id hns7
                    have w2 := (H7.fzNews _ (.head _)).1
                    dsimp only at w2
                    rw [w2] at q4; cases q4
                    refine ⟨j, Nat.lt_succ_self _, Nat.le_of_succ_le hj, i', σ7, n7, o', oC6, _, h7, t7, rfl, ex4.trans ex7, ⟨H7.ok, H7.F, H7.S, ?_⟩, hi7, hns7, e7⟩
                    exact comp_rho H.ok (H.rho.ex (ex1.trans (ex2.trans (ex4.trans ex7)))) hnd hk hcl' (.inr ⟨_, q2, q3, .head _, q5, q6, q7⟩)
                  have elem : ∀ {σ7 : St} {n7 : News'} {h7 : Heap} {t7 : Nat}, Ex (adr n4) (adr n7) → Here D (c.comp sc cl h2.objs.size) ⟨sc.names, cn.rz⟩ d ((y, .val b) :: ρ') m ((h2.objs.size, oC6) :: (a, o') :: fz) n7 σ7 h7 →
                      ((ev D.G j).E d ⟨sc.names, cn.rz⟩ elt ((y, .val b) :: ρ') σ7 nx fun w σ => appendV l w σ fun σ => (ev D.G j).P d ⟨sc.names, cn.rz⟩ elt y ifs i' l ρ' σ k) = true →
                      wpAny D.M c.A (eval elt (compEnvC sc cl h2.objs.size c.env)) (fun x s₄ => wpAny D.M c.A (call (.builtin "list.append") [v, x]) (fun _ s₅ => ∃ mm, mm < j + 1 ∧ mm ≤ n ∧ ∃ i σ' n' o oC ml h t, s₅ = up s h t ∧ Ex (adr n2) (adr n') ∧
                        Here D (c.comp sc cl h2.objs.size) ⟨sc.names, cn.rz⟩ d ρ' m ((h2.objs.size, oC) :: (a, o) :: fz) n' σ' h ∧ ItR (adr n') i o ∧ h.Ns h2.objs.size ml ∧ (ev D.G mm).P d ⟨sc.names, cn.rz⟩ elt y ifs i l ρ' σ' k = true)
                        (notedBy D.M c.A (compEnvC sc cl h2.objs.size c.env) fun e s' => compPost D.M c.A E use Q v h2.objs.size (.error e) s') s₄) (notedBy D.M c.A (compEnvC sc cl h2.objs.size c.env) fun e s' => compPost D.M c.A E use Q v h2.objs.size (.error e) s') (up s h7 t7) := by
                    intro σ7 n7 h7 t7 ex7 H7 e7
                    refine Sj.E (s := up s h7 t7) e7 H7 (fun b' σ8 n8 v8 h8 t8 ex8 H8 hv8 e8 => ?_) PostX.nx
                    exact append_rule (s := up s h8 t8) O e8 H8 (hv2.ex (ex4.trans (ex7.trans ex8))) hv8 (fun σ9 n9 h9 t9 ex9 H9 e9 => back (ex7.trans (ex8.trans ex9)) H9 e9 t9)
                  split at e5
                  · refine wpAny_tests_nil ?_
                    rw [if_pos rfl]
                    exact elem (Ex.refl _) H6 e5
                  · rename_i tst
                    refine wpAny_tests_one (Sj.T (s := up s h6 (t5 + 1)) e5 H6 (fun q σ7 n7 h7 t7 ex7 H7 e7 => ?_) PostX.nx)
                    dsimp only at e7
                    split at e7
                    · rw [if_pos rfl]
                      exact elem ex7 H7 e7
                    · rw [if_neg (by decide)]
                      exact back ex7 H7 e7 t7
                  · cases e5
                · have hns5 : h5.Ns h2.objs.size ml := by
                    obtain ⟨q1, q2, q3, q4, q5⟩ := hns4
                    have w1 := (H4.fzNews _ (.head _)).1
                    have w2 := (H5.fzNews _ (.head _)).1
                    dsimp only at w1 w2
                    rw [w1] at q4; cases q4
                    exact ⟨_, q2, q3, w2, q5⟩
                  have exx := ex1.trans (ex2.trans ex4)
                  exact hend h2.objs.size oC4 ml v l σ4 n4 h5 t5 exx ⟨H.ok, H5.F, H5.S, (H.rho.ex exx).addfz⟩ hns5 (hv2.ex ex4) e5
            exact codeAny_compStart_list (loop _ rfl) (iter_again hi3 (H3.S.nw _ (List.mem_append_right _ (.tail _ (.head _)))).1 (loop _ rfl))
          · cases e2
        · cases e
      · cases e
    · cases e
  · cases e

theorem comp_val {n : Nat} (O : D.Ok) (S : ∀ j, j ≤ n → Snd D (ev D.G j)) {elt : Expr} {gens : List Comprehension} {sc : Scope} {pos : Pos} {x k : KE} {Q : Value → Shared → Prop}
    (e : evComp D.G (ev D.G n) d cn elt gens sc ρ σ x k = true) (H : Here D c cn d ρ m fz news σ s.heap) (hQ : PostE D c cn d ρ m fz news k s Q) (hX : PostX D c m fz news x s E) :
    wpAny D.M c.A (eval (.ListComp elt gens sc pos) c.env) Q E s := by
  have hfa : firstAsync gens = false := by
    unfold evComp at e
    split at e
    · rfl
    · cases e
  rw [eval_ListComp, hfa]
  refine comp_core (use := none) O S e H hX (fun C oC ml acc l σ' n' h t ex H' hns hv e' => ?_)
  exact ⟨ml, hns, fun h' hs => hQ (.own l) σ' n' acc h' t ex (H'.outExt (H.rho.ex ex) H.S.rw hs.extBut) hv e'⟩
end
end Mine
end

section
/-! one step of an expression -/
set_option maxRecDepth 100000
namespace Mine
open PySem PySem.W PySem.W.X PySem.Calls PyProof.Rows PySem.Spec

section
variable {D : Wd} {c : Cx} {cn : Cn} {d : Nat} {ρ : Loc} {m : Str → Option Value} {fz news : News'} {σ : St} {s : Shared} {E : Value → Shared → Prop}

theorem stepE {n : Nat} (O : D.Ok) (I : IsnOk D) (T : TakeOk D) (S : ∀ j, j ≤ n → Snd D (ev D.G j)) : SndE D (ev D.G (n + 1)) := by
  have Sn := S n (Nat.le_refl _)
  intro d cn ex ρ σ x k e c m fz news s Q E H hQ hX
  change evE D.G (ev D.G n) d cn ex ρ σ x k = true at e
  unfold evE at e
  split at e
  · split at e
    · exact wpAny_Constant_none (hQ.here H (t := s.toks) (b := .none) rfl e)
    · exact wpAny_Constant_bool (hQ.here H (t := s.toks) (b := .bool _) rfl e)
    · exact wpAny_Constant_int (hQ.here H (t := s.toks + 1) (b := .int _) ⟨_, rfl⟩ e)
    · exact wpAny_Constant_str (hQ.here H (t := s.toks + 1) (b := .str _) ⟨_, rfl⟩ e)
    · cases e
  · exact name_rule O e H hQ
  · rename_i o a p
    split at e
    · rename_i hc
      have hb : attributeBase o a c.env (eval o c.env) = eval o c.env := by
        unfold attributeBase
        cases o <;> first | rfl | (cases hc; done)
      refine Attribute_any_ ?_ (by rw [arm_eval_Attribute, hb])
      exact Sn.E e H (fun v σ1 n1 va h1 t1 ex1 H1 hv1 e1 => get_rule (s := up s h1 t1) O e1 H1 hv1 (hQ.on ex1)) hX
    · cases e
  · exact evBool_val Sn e H hQ hX
  · split at e
    · refine wpAny_UnaryOp (Sn.E e H (fun v σ1 n1 va h1 t1 ex1 H1 hv1 e1 => ?_) hX)
      dsimp only at e1
      split at e1
      · rename_i b hq
        unfold unaryOp
        refine wpAny_holding ?_
        show wpAny D.M c.A (do return Value.bool (!(← truthy va))) Q E (up s h1 t1)
        exact wpAny_bind (truthy_rule hq hv1 (wpAny_pure (hQ (.bool (!b)) σ1 n1 _ h1 t1 ex1 H1 rfl e1)))
      · cases e1
    · cases e
  · refine wpAny_IfExp (Sn.T e H (fun q σ1 n1 h1 t1 ex1 H1 e1 => ?_) hX)
    dsimp only at e1
    split at e1
    · rw [if_pos rfl]; exact Sn.E (s := up s h1 t1) e1 H1 (hQ.on ex1) (hX.on ex1)
    · rw [if_neg (by decide)]; exact Sn.E (s := up s h1 t1) e1 H1 (hQ.on ex1) (hX.on ex1)
  · refine wpAny_BinOp (Sn.E e H (fun a σ1 n1 va h1 t1 ex1 H1 hv1 e1 => ?_) hX)
    refine Sn.E e1 (s := up s h1 t1) H1 (fun b σ2 n2 vb h2 t2 ex2 H2 hv2 e2 => ?_) (hX.on ex1)
    exact bin_rule (s := up s h2 t2) e2 H2 (hv1.ex ex2) hv2 (hQ.on (ex1.trans ex2))
  · exact evCmp_val Sn e H (fun b σ' n' h t ex H' e' => hQ (.bool b) σ' n' _ h t ex H' rfl e') hX
  · split at e
    · rename_i hs
      rw [arm_eval_List]
      refine wpAny_bind (wpAny_standAt (wpAny_bind (Sn.Es e hs H (fun bs σ1 n1 vs h1 t1 ex1 H1 hv1 e1 => ?_) hX)))
      dsimp only at e1
      split at e1
      · rename_i hb
        refine mk_list (s := up s h1 t1) H1 e1 hv1 ?_ (hQ.on ex1)
        rw [← hv1.length]; exact small_sz (Nat.lt_trans (blt_lt hb) (by decide))
      · cases e1
    · cases e
  · split at e
    · rename_i hs
      rw [arm_eval_Tuple]
      refine wpAny_bind (wpAny_standAt (wpAny_bind (Sn.Es e hs H (fun bs σ1 n1 vs h1 t1 ex1 H1 hv1 e1 => ?_) hX)))
      dsimp only at e1
      split at e1
      · rename_i hb
        refine mk_tup (s := up s h1 t1) H1 e1 hv1 ?_ (hQ.on ex1)
        rw [← hv1.length]; exact small_sz (Nat.lt_trans (blt_lt hb) (by decide))
      · cases e1
    · cases e
  · exact evDict_val O Sn e H hQ hX
  · exact evSub_val Sn e H hQ hX
  · exact evCall_val O I T Sn e H hQ hX
  · exact comp_val O S e H hQ hX
  · cases e
end
end Mine
end

section
/-! stores -/
set_option maxRecDepth 100000
namespace Mine
open PySem PySem.W PySem.W.X PySem.Calls PyProof.Rows PySem.Spec

section
variable {D : Wd} {ih : Ev} {c : Cx} {cn : Cn} {d : Nat} {ρ ρ' : Loc} {m : Str → Option Value} {fz fz' news : News'} {σ : St} {s : Shared} {A : Around} {E : Value → Shared → Prop} {h h' : Heap} {a : Addr} {o o' : Obj}

theorem vr_cell_upd {as : As} {b : AV} {v : Value} {ob : Obj} (hv : VR as b v) (hd : ob.data = .cell (some v)) {R : Addr} {z : Nat} {P : Params} : OR R z P as (.cell (some b)) ob := ⟨some v, hd, v, rfl, hv⟩
theorem Own.loc (ow : Own c) (N : News c.h₀ c.L h (news ++ fz)) {ml : Str → Option Value} (l : LocAt c m fz ml) : ml = m := by
  rcases l with ⟨_, l⟩ | ⟨ob, es, ep, h1, _⟩
  · exact l
  · exact absurd ow.2 (N _ (List.mem_append_right _ h1)).2.1
theorem storeN_rule {x : Str} {b : AV} {v : Value} {k : Loc → St → Bool} {Q : Unit → Shared → Prop} (e : storeName' cn x b ρ σ k = true) (ow : Own c) (H : Here D c cn d ρ m fz news σ s.heap) (hv : VR (adr news) b v)
    (hQ : ∀ ρ' m' σ' news' h t, Ex (adr news) (adr news') → Here D c cn d ρ' m' fz news' σ' h → k ρ' σ' = true → Q () (up s h t)) : wpAny D.M A (storeName c.env x v) Q E s := by
  unfold storeName' at e
  split at e
  · rename_i hk
    have hx := H.ok.nml x hk
    have hp : (c.env.scope.kind == .class || (c.env.scope.kind == .module && c.env.locals != c.env.globals)) = false := by rw [H.ok.hk]; rfl
    refine wpAny_storeName_local hx (show s.heap.Ns c.env.locals m by rw [ow.2]; exact H.F.ns) (fun h' hns hs => ?_) hp
    rw [ow.2] at hns hs
    refine hQ _ _ σ news h' (s.toks + 1) (Ex.refl _) ⟨H.ok, H.F.set hns hs, ⟨H.S.rw, H.S.zl, H.S.nw.set hs, H.S.nd, H.S.ln, H.S.lt, H.S.ob⟩, ⟨_, .inl ⟨ow.2, rfl⟩, fun y b' hy => ?_⟩, fun y i hy => ?_⟩ e
    · rw [lk_put] at hy
      by_cases q : y = x
      · subst q
        rw [if_pos rfl] at hy; cases hy
        exact ⟨hx, v, by rw [if_pos rfl], hv⟩
      · rw [if_neg q] at hy
        obtain ⟨ml, l, r⟩ := H.rho.loc
        have := ow.loc H.S.nw l
        subst this
        obtain ⟨r1, u, r2, r3⟩ := r y b' hy
        exact ⟨r1, u, by rw [if_neg q]; exact r2, r3⟩
    · rw [lk_put] at hy
      by_cases q : y = x
      · rw [if_pos q] at hy; cases hy
      · rw [if_neg q] at hy; exact H.rho.cel y i hy
  · split at e
    · rename_i i hl
      split at e
      · rename_i v0 hg
        obtain ⟨q1, ca, q2, q3⟩ := H.rho.cel x i hl
        obtain ⟨a', ob, h1, h2, h3, c0, h4, h5⟩ := H.S.at hg
        rw [q3] at h2; cases h2
        refine wpAny_storeName_cell H.ok.hk q1 q2 ⟨ob, h3, h4⟩ (fun h' hc hs => ?_)
        obtain ⟨ob', g1, g2⟩ := hc
        obtain ⟨F', N'⟩ := news_same H h1 hs g1
        exact hQ ρ m _ _ h' s.toks (by rw [adr_set h1]; exact Ex.refl _) (H.set hg h1 (vr_cell_upd hv g2) F' N') e
      · cases e
    · cases e
  · cases e
theorem Here.ext (H : Here D c cn d ρ m fz news σ h) (hs : Heap.ExtBut h.objs.size h h') : Here D c cn d ρ m fz news σ h' :=
  H.grow (H.F.extBut hs (Nat.le_refl _)) fun p hp => ⟨hs _ _ (Nat.ne_of_lt (Heap.lt_size (H.S.nw p hp).1)) (H.S.nw p hp).1, (H.S.nw p hp).2⟩
theorem assignV_rule {t : Expr} {b : AV} {v : Value} {k : Loc → St → Bool} {Q : Unit → Shared → Prop} (e : assignV cn t b ρ σ k = true) (ow : Own c) (H : Here D c cn d ρ m fz news σ s.heap) (hv : VR (adr news) b v)
    (hQ : ∀ ρ' m' σ' news' h t, Ex (adr news) (adr news') → Here D c cn d ρ' m' fz news' σ' h → k ρ' σ' = true → Q () (up s h t)) : wpAny D.M c.A (assign t c.env v) Q E s := by
  unfold assignV at e
  split at e
  · exact PyProof.Rows.assign_Name (storeN_rule e ow H hv hQ)
  · rename_i x xp y yp kk p
    split at e
    · rename_i hrz
      split at e
      · rename_i u w ht
        unfold tup2 at ht
        split at ht
        · rename_i i
          split at ht
          · rename_i u' w' hg
            cases ht
            obtain ⟨ta, ob, rfl, g1, g2, vs, n, rfl, g3⟩ := H.S.atV hg hv
            obtain ⟨v1, v2, rfl, r1, r2⟩ := all2_two g3
            refine wpAny_assign_Tuple (items := [v1, v2].toArray) (H.ok.hh hrz) ⟨_, g2, rfl, n, rfl⟩ rfl rfl (fun h' hs => ?_)
            have H' := H.ext hs
            show wpAny D.M c.A (assignInOrder [assign (.Name x xp) c.env, assign (.Name y yp) c.env] [v1, v2]) Q E (up s h' s.toks)
            unfold assignInOrder
            refine wpAny_bind (wpAny_holding (PyProof.Rows.assign_Name (storeN_rule (s := up s h' s.toks) e ow H' r1 (fun ρ1 m1 σ1 n1 h1 t1 ex1 H1 e1 => ?_))))
            unfold assignInOrder
            refine wpAny_bind (wpAny_holding (PyProof.Rows.assign_Name (storeN_rule (s := up s h1 t1) e1 ow H1 (r2.ex ex1) (fun ρ2 m2 σ2 n2 h2 t2 ex2 H2 e2 => ?_))))
            unfold assignInOrder
            exact wpAny_pure (hQ ρ2 m2 σ2 n2 h2 t2 (ex1.trans ex2) H2 e2)
          · cases ht
        · cases ht
      · cases e
    · cases e
  · cases e
theorem swap_no {v : Expr} {t : Option Expr} {l : Nat} {env : Env} (h : isComp v = false) : swapsWith v t l env = pure false := by
  unfold swapsWith
  cases v <;> first | rfl | (cases h; done)
theorem letGo_rule {as : As} {i : It} {t : Expr} {v : Value} {Q : Unit → Shared → Prop} (hi : ItR as i o) (ho : s.heap.get? a = some o) (h : Q () s) : wpAny D.M A (letOwnedTupleGo t (.ref a) v) Q E s := by
  have key : ∃ n vs, o.cls = .type n ∧ o.data = .fields vs ∧ (["enumerate", "zip", "dict_itemiterator", "dict_reverseitemiterator", "odict_iterator", "itertools.zip_longest", "itertools.pairwise"].contains n) = false := by
    cases i with
    | lit l j => obtain ⟨la, g1, g2, g3⟩ := hi; exact ⟨_, _, g2, g3, by decide⟩
    | rit x n => obtain rfl : o = itR (x : Int) (n : Int) := hi; exact ⟨_, _, rfl, rfl, by decide⟩
    | sit x j =>
      obtain ⟨t, g1, g2⟩ := hi
      rcases g1 with g1 | g1
      · exact ⟨_, _, g1, g2, by decide⟩
      · exact ⟨_, _, g1, g2, by decide⟩
  obtain ⟨n, vs, k1, k2, k3⟩ := key
  have tup : wpAny D.M A (do
      let (.ref r, .ref a) := (Value.ref a, v) | return
      let o ← load r
      match o.cls, o.data with
      | .type n, .fields vs =>
        if ["enumerate", "zip", "dict_itemiterator", "dict_reverseitemiterator", "odict_iterator", "itertools.zip_longest", "itertools.pairwise"].contains n && vs[0]? == some (rawInt a) then
          rule "for.unpacks-the-owned-tuple"
          updateField r 0 .none
      | _, _ => pure ()) Q E s := by
    cases v with
    | ref b =>
      refine wpAny_bind (wpAny_load ho ?_)
      rw [k1, k2]
      show wpAny _ A (if (["enumerate", "zip", "dict_itemiterator", "dict_reverseitemiterator", "odict_iterator", "itertools.zip_longest", "itertools.pairwise"].contains n && vs[0]? == some (rawInt b)) = true then _ else _) Q E s
      rw [k3, Bool.false_and, if_neg (by decide)]
      exact wpAny_pure h
    | _ => exact wpAny_pure h
  unfold letOwnedTupleGo
  cases t <;> first | exact wpAny_pure h | exact tup

theorem load_rule {x : Str} {en : Ent} {k : KE} {Q : Value → Shared → Prop} (e : evName D.G cn x ρ σ k = true) (hen : lk ρ x = some en) (H : Here D c cn d ρ m fz news σ s.heap) (hQ : PostE D c cn d ρ m fz news k s Q) :
    wpAny D.M A (loadName c.env x) Q E s := by
  unfold evName at e
  split at e
  · rename_i a hl
    obtain ⟨⟨ml, l, r⟩, _⟩ := H.rho
    obtain ⟨q1, v, q2, q3⟩ := r x a hl
    exact wpAny_loadName_local H.ok.hk q1 (l.ns H.F H.S.nw) q2 (hQ.here H (t := s.toks) q3 e)
  · rename_i i hl
    split at e
    · rename_i a hg
      obtain ⟨q1, ca, q2, q3⟩ := H.rho.cel x i hl
      obtain ⟨a', ob, h1, h2, h3, v?, h4, h5⟩ := H.S.at hg
      rw [q3] at h2; cases h2
      obtain ⟨v, rfl, h6⟩ := h5
      exact wpAny_loadName_cell H.ok.hk q1 q2 ⟨ob, h3, h4⟩ (hQ.here H (t := s.toks) h6 e)
    · cases e
  · rename_i hn; rw [hn] at hen; cases hen
theorem int_rel {as : As} {i : Int} {v : Value} (h : VR as (.int i) v) : ∃ t, v = .int i t := h
theorem evAug_rule (O : D.Ok) (S : Snd D ih) {t : Expr} {op : Operator} {v : Expr} {pos : Pos} {x : KX} {k : KS} {Q : Flow → Shared → Prop} (e : evAug D.G ih d cn t op v ρ σ x k = true) (ow : Own c) (H : Here D c cn d ρ m fz news σ s.heap)
    (hQ : PostS D c cn d fz news k s Q) (hX : PostXs D c fz news x s E) : wpAny D.M c.A (exec (.AugAssign t op v pos) c.env) Q E s := by
  unfold evAug at e
  split at e
  · split at e
    · refine wpAny_AugAssign_AttributeAny (S.E e H (fun ov σ1 n1 va h1 t1 ex1 H1 hv1 e1 => ?_) (hX.toX H.rho))
      refine get_rule (s := up s h1 t1) O e1 H1 hv1 (fun w σ2 n2 vw h2 t2 ex2 H2 hv2 e2 => ?_)
      refine S.E e2 (s := up s h2 t2) H2 (fun u σ3 n3 vu h3 t3 ex3 H3 hv3 e3 => ?_) ((hX.toX H.rho).on (ex1.trans ex2))
      dsimp only at e3
      split at e3
      · rename_i mm nn
        obtain ⟨ta, rfl⟩ := int_rel hv2
        obtain ⟨tb, rfl⟩ := int_rel hv3
        refine PyProof.Rows.iadd_int ?_
        have exx := ex1.trans (ex2.trans ex3)
        exact set_rule (s := up s h3 (t3 + 1)) O e3 H3 (hv1.ex (ex2.trans ex3)) ⟨_, rfl⟩ (fun σ4 n4 h4 t4 ex4 H4 e4 => hQ .next ρ m σ4 n4 .next h4 t4 (exx.trans ex4) H4 rfl e4)
      · cases e3
    · cases e
  · rename_i y yp
    split at e
    · split at e
      · rename_i en hen
        refine wpAny_AugAssign_Name (load_rule (k := fun w σ => ih.E d cn v ρ σ (fun v σ => x v ρ σ) fun u σ => _) e hen H (fun w σ2 n2 vw h2 t2 ex2 H2 hv2 e2 => ?_))
        refine S.E e2 (s := up s h2 t2) H2 (fun u σ3 n3 vu h3 t3 ex3 H3 hv3 e3 => ?_) ((hX.toX H.rho).on ex2)
        dsimp only at e3
        split at e3
        · rename_i mm nn
          obtain ⟨ta, rfl⟩ := int_rel hv2
          obtain ⟨tb, rfl⟩ := int_rel hv3
          refine PyProof.Rows.iadd_int ?_
          exact storeN_rule (s := up s h3 (t3 + 1)) e3 ow H3 ⟨_, rfl⟩ (fun ρ4 m4 σ4 n4 h4 t4 ex4 H4 e4 => hQ .next ρ4 m4 σ4 n4 .next h4 t4 ((ex2.trans ex3).trans ex4) H4 rfl e4)
        · cases e3
      · cases e
    · cases e
  · cases e
end
end Mine
end

section
/-! statements -/
set_option maxRecDepth 100000
namespace Mine
open PySem PySem.W PySem.W.X PySem.Calls PyProof.Rows PySem.Spec

section
variable {D : Wd} {ih : Ev} {c : Cx} {cn : Cn} {d : Nat} {ρ ρ' : Loc} {m : Str → Option Value} {fz fz' news : News'} {σ : St} {s : Shared} {A : Around} {E : Value → Shared → Prop} {h h' : Heap} {a : Addr} {o o' : Obj}

theorem ItR.ex {as as' : As} (x : Ex as as') {i : It} (h : ItR as i o) : ItR as' i o := by
  cases i with
  | lit l j => obtain ⟨la, g1, g2⟩ := h; exact ⟨la, x.get g1, g2⟩
  | rit x n => exact h
  | sit x j => exact h
theorem ItR.flds {as : As} {i : It} (h : ItR as i o) : Flds o := by
  cases i with
  | lit l j => obtain ⟨la, g1, g2, g3⟩ := h; exact ⟨_, g3⟩
  | rit x n => obtain rfl : o = itR (x : Int) (n : Int) := h; exact ⟨_, rfl⟩
  | sit x j => obtain ⟨t, g1, g2⟩ := h; exact ⟨_, g2⟩

theorem for_rule {n : Nat} (S : ∀ j, j ≤ n → Snd D (ev D.G j)) {t : Expr} {b : List Stmt} {i : It} {k : KS} {Q : Flow → Shared → Prop} (e : (ev D.G n).L d cn t b i ρ σ k = true) (ow : Own c) (hrz : cn.rz = true)
    (H : Here D c cn d ρ m ((a, o) :: fz) news σ s.heap) (hi : ItR (adr news) i o) (hQ : PostS D c cn d fz news k s Q) :
    codeAny D.M c.A (.forLoop t (.ref a) b [] c.env) (fun r s' => match r with | .ok f => Q f s' | .error e => cameBackBy D.M c.A c.env E e s') s := by
  have hh : c.A.handled = none := H.ok.hh hrz
  refine codeAny_forLoop_any (I := fun j s' => j ≤ n ∧ ∃ i ρ m σ' n' o h t', s' = up s h t' ∧ Ex (adr news) (adr n') ∧ Here D c cn d ρ m ((a, o) :: fz) n' σ' h ∧ ItR (adr n') i o ∧ (ev D.G j).L d cn t b i ρ σ' k = true)
    (fun j s' hI => ?_) n ⟨Nat.le_refl _, i, ρ, m, σ, news, o, s.heap, s.toks, rfl, Ex.refl _, H, hi, e⟩
  obtain ⟨hj, i, ρ, m, σ4, n4, o4, h4, t4, rfl, ex4, H4, hi4, e4⟩ := hI
  cases j with
  | zero => cases e4
  | succ j =>
    have Sj := S j (Nat.le_of_succ_le hj)
    have e4' : evL (ev D.G j) d cn t b i ρ σ4 k = true := e4
    unfold evL at e4'
    refine next_rule (s := up s h4 t4) e4' H4 hi4 hh (fun b' i' o' vv h5 t5 e5 H5 hi5 hv5 => ?_) (fun h5 t5 e5 H5 => ?_)
    · refine letGo_rule (s := up s h5 t5) hi5 (H5.fzNews _ (.head _)).1 ?_
      refine assignV_rule (s := up s h5 t5) e5 ow H5 hv5 (fun ρ6 m6 σ6 n6 h6 t6 ex6 H6 e6 => ?_)
      refine Sj.Ss (s := up s h6 t6) e6 ow H6 (fun fl ρ7 m7 σ7 n7 f h7 t7 ex7 H7 hf e7 => ?_) PostXs.nx
      have exx := ex4.trans (ex6.trans ex7)
      have next : (ev D.G j).L d cn t b i' ρ7 σ7 k = true → ∃ mm, mm < j + 1 ∧ mm ≤ n ∧ ∃ i ρ m σ' n' o h t', up s h7 t7 = up s h t' ∧ Ex (adr news) (adr n') ∧ Here D c cn d ρ m ((a, o) :: fz) n' σ' h ∧ ItR (adr n') i o ∧ (ev D.G mm).L d cn t b i ρ σ' k = true := fun e' =>
        ⟨j, Nat.lt_succ_self _, Nat.le_of_succ_le hj, i', ρ7, m7, σ7, n7, o', h7, t7, rfl, exx, H7, (hi5.ex ex6).ex ex7, e'⟩
      have H7' := H7.itDrop hi5.flds
      cases fl with
      | next => obtain rfl : f = .next := hf; exact next e7
      | cont => obtain rfl : f = .cont := hf; exact next e7
      | brk => obtain rfl : f = .brk := hf; exact hQ .next ρ7 m7 σ7 n7 .next h7 t7 exx H7' rfl e7
      | ret w => obtain ⟨v, rfl, hv⟩ := hf; exact hQ (.ret w) ρ7 m7 σ7 n7 _ h7 t7 exx H7' ⟨v, rfl, hv⟩ e7
    · exact wpAny_execs_nil (hQ .next ρ m σ4 n4 .next h5 t5 ex4 H5 rfl e5)

theorem while_rule {n : Nat} (S : ∀ j, j ≤ n → Snd D (ev D.G j)) {t : Expr} {b : List Stmt} {k : KS} {Q : Flow → Shared → Prop} (e : (ev D.G n).W d cn t b ρ σ k = true) (ow : Own c)
    (H : Here D c cn d ρ m fz news σ s.heap) (hQ : PostS D c cn d fz news k s Q) :
    codeAny D.M c.A (.whileLoop t b [] c.env) (fun r s' => match r with | .ok f => Q f s' | .error e => cameBackBy D.M c.A c.env E e s') s := by
  refine codeAny_whileLoop (I := fun j s' => j ≤ n ∧ ∃ ρ m σ' n' h t', s' = up s h t' ∧ Ex (adr news) (adr n') ∧ Here D c cn d ρ m fz n' σ' h ∧ (ev D.G j).W d cn t b ρ σ' k = true)
    (fun j s' hI => ?_) n ⟨Nat.le_refl _, ρ, m, σ, news, s.heap, s.toks, rfl, Ex.refl _, H, e⟩
  obtain ⟨hj, ρ, m, σ4, n4, h4, t4, rfl, ex4, H4, e4⟩ := hI
  cases j with
  | zero => cases e4
  | succ j =>
    have Sj := S j (Nat.le_of_succ_le hj)
    have e4' : evW (ev D.G j) d cn t b ρ σ4 k = true := e4
    unfold evW at e4'
    refine Sj.T (s := up s h4 t4) e4' H4 (fun q σ6 n6 h6 t6 ex6 H6 e6 => ?_) PostX.nx
    dsimp only at e6
    split at e6
    · rw [if_pos rfl]
      refine Sj.Ss (s := up s h6 t6) e6 ow H6 (fun fl ρ7 m7 σ7 n7 f h7 t7 ex7 H7 hf e7 => ?_) PostXs.nx
      have exx := ex4.trans (ex6.trans ex7)
      have next : (ev D.G j).W d cn t b ρ7 σ7 k = true → ∃ mm, mm < j + 1 ∧ mm ≤ n ∧ ∃ ρ m σ' n' h t', up s h7 t7 = up s h t' ∧ Ex (adr news) (adr n') ∧ Here D c cn d ρ m fz n' σ' h ∧ (ev D.G mm).W d cn t b ρ σ' k = true := fun e' =>
        ⟨j, Nat.lt_succ_self _, Nat.le_of_succ_le hj, ρ7, m7, σ7, n7, h7, t7, rfl, exx, H7, e'⟩
      cases fl with
      | next => obtain rfl : f = .next := hf; exact next e7
      | cont => obtain rfl : f = .cont := hf; exact next e7
      | brk => obtain rfl : f = .brk := hf; exact hQ .next ρ7 m7 σ7 n7 .next h7 t7 exx H7 rfl e7
      | ret w => obtain ⟨v, rfl, hv⟩ := hf; exact hQ (.ret w) ρ7 m7 σ7 n7 _ h7 t7 exx H7 ⟨v, rfl, hv⟩ e7
    · rw [if_neg (by decide)]
      exact wpAny_execs_nil (hQ .next ρ m σ6 n6 .next h6 t6 (ex4.trans ex6) H6 rfl e6)

theorem evAssign_rule {n : Nat} (O : D.Ok) (S : ∀ j, j ≤ n → Snd D (ev D.G j)) {t v : Expr} {pos : Pos} {x : KX} {k : KS} {Q : Flow → Shared → Prop} (e : evAssign D.G (ev D.G n) d cn t v ρ σ x k = true) (ow : Own c) (H : Here D c cn d ρ m fz news σ s.heap)
    (hQ : PostS D c cn d fz news k s Q) (hX : PostXs D c fz news x s E) : wpAny D.M c.A (exec (.Assign [t] v pos) c.env) Q E s := by
  have Sn := S n (Nat.le_refl _)
  unfold evAssign at e
  split at e
  · rename_i y yp
    split at e
    · rename_i hc
      refine wpAny_Assign_Name (Sn.E e H (fun b σ1 n1 va h1 t1 ex1 H1 hv1 e1 => ?_) (hX.toX H.rho)) (swap_no hc)
      exact storeN_rule (s := up s h1 t1) e1 ow H1 hv1 (fun ρ4 m4 σ4 n4 h4 t4 ex4 H4 e4 => hQ .next ρ4 m4 σ4 n4 .next h4 t4 (ex1.trans ex4) H4 rfl e4)
    · rename_i hc
      split at e
      · rename_i hy
        cases n with
        | zero => cases e
        | succ j =>
          have e0 := e
          change evE D.G (ev D.G j) d cn v ρ σ nx (fun a σ => storeName' cn y a ρ σ (k .next)) = true at e
          have plain : ∀ q, swapsWith v (some (.Name y yp)) pos.line c.env = pure q → q = false → wpAny D.M c.A (exec (.Assign [.Name y yp] v pos) c.env) Q E s := fun q hq hq' => by
            subst hq'
            refine wpAny_Assign_Name (Sn.E (x := nx) e0 H (fun b σ1 n1 va h1 t1 ex1 H1 hv1 e1 => ?_) PostX.nx) hq
            exact storeN_rule (s := up s h1 t1) e1 ow H1 hv1 (fun ρ4 m4 σ4 n4 h4 t4 ex4 H4 e4 => hQ .next ρ4 m4 σ4 n4 .next h4 t4 (ex1.trans ex4) H4 rfl e4)
          unfold evE at e
          cases v <;> first | (cases e; done) | (cases hc; done) | skip
          rename_i elt gens sc vp
          dsimp only at e
          have hsw : ∃ q, swapsWith (.ListComp elt gens sc vp) (some (.Name y yp)) pos.line c.env = pure q := ⟨_, rfl⟩
          obtain ⟨q, hq⟩ := hsw
          cases q with
          | false => exact plain false hq rfl
          | true =>
            rw [exec_Assign_Name_used _ _ _ _ hq]
            refine wpAny_bind (wpAny_standAt (wpAny_bind ?_))
            have hfa : firstAsync gens = false := by
              unfold evComp at e
              split at e
              · rfl
              · cases e
            show wpAny D.M c.A (do let _ ← comprehension (.ListComp elt gens sc vp) sc c.env (firstIterPos gens vp) (newList []) (firstAsync gens) (firstIter gens c.env) (some (assign (.Name y yp) c.env))) _ E s
            rw [hfa]
            refine wpAny_bind (comp_core (use := some (assign (.Name y yp) c.env)) (Q := fun _ s' => wpAny D.M c.A (pure ()) (fun _ s'' => wpAny D.M c.A (pure Flow.next) Q E s'') E s') O (fun i hi => S i (Nat.le_succ_of_le hi)) e H PostX.nx (fun C oC ml acc l σ' n' h t ex H' hns hv e' => ?_))
            show wpAny D.M c.A (assign (.Name y yp) c.env acc) _ E (up s h t)
            refine PyProof.Rows.assign_Name (storeN_rule (s := up s h t) e' ow H' hv (fun ρ4 m4 σ4 n4 h4 t4 ex4 H4 e4 => ?_))
            have Hc := H'.fzNews _ (.head _)
            have Hc4 := H4.fzNews _ (.head _)
            have hns4 : h4.Ns C ml := by
              obtain ⟨q1, q2, q3, q4, q5⟩ := hns
              have w1 := Hc.1
              have w2 := Hc4.1
              dsimp only at w1 w2
              rw [w1] at q4; cases q4
              exact ⟨_, q2, q3, w2, q5⟩
            refine ⟨ml, hns4, fun h5 hs5 => ?_⟩
            obtain ⟨q1, q2, q3, q4, q5, q6⟩ := id hns4
            have hrw : RowIn D.R D.ns fz := H.S.rw
            have hr4 : Rho c ρ4 m4 fz (adr n4) := by
              refine ⟨?_, H4.rho.cel⟩
              obtain ⟨ml', l', r'⟩ := H4.rho.loc
              have := ow.loc H4.S.nw l'
              subst this
              exact ⟨_, .inl ⟨ow.2, rfl⟩, r'⟩
            have H5 := H4.outExt hr4 hrw hs5.extBut
            exact wpAny_pure (wpAny_pure (hQ .next ρ4 m4 σ4 n4 .next h5 t4 (ex.trans ex4) H5 rfl e4))
      · cases e
  · rename_i o a p
    split at e
    · rename_i hc
      refine plainObj_wpAny_Assign_Attribute (Sn.E e H (fun b σ1 n1 va h1 t1 ex1 H1 hv1 e1 => ?_) (hX.toX H.rho)) (swap_no hc)
      refine Sn.E e1 (s := up s h1 t1) H1 (fun ov σ2 n2 vo h2 t2 ex2 H2 hv2 e2 => ?_) ((hX.toX H.rho).on ex1)
      exact set_rule (s := up s h2 t2) O e2 H2 hv2 (hv1.ex ex2) (fun σ4 n4 h4 t4 ex4 H4 e4 => hQ .next ρ m σ4 n4 .next h4 t4 ((ex1.trans ex2).trans ex4) H4 rfl e4)
    · cases e
  · rename_i o i p
    split at e
    · rename_i hc
      split at e
      · cases e
      · refine wpAny_Assign_Subscript (Sn.E e H (fun b σ1 n1 va h1 t1 ex1 H1 hv1 e1 => ?_) (hX.toX H.rho)) (swap_no hc)
        refine Sn.E e1 (s := up s h1 t1) H1 (fun ov σ2 n2 vo h2 t2 ex2 H2 hv2 e2 => ?_) ((hX.toX H.rho).on ex1)
        refine Sn.E e2 (s := up s h2 t2) H2 (fun iv σ3 n3 vi h3 t3 ex3 H3 hv3 e3 => ?_) ((hX.toX H.rho).on (ex1.trans ex2))
        exact store_rule (s := up s h3 t3) O e3 H3 (hv2.ex ex3) hv3 (hv1.ex (ex2.trans ex3)) (fun σ4 n4 h4 t4 ex4 H4 e4 => hQ .next ρ m σ4 n4 .next h4 t4 ((ex1.trans (ex2.trans ex3)).trans ex4) H4 rfl e4)
    · cases e
  · rename_i ts kk p
    have go : ∀ v, (Sn' : True) → (ev D.G n).E d cn v ρ σ (fun v σ => x v ρ σ) (fun w σ => assignV cn (.Tuple ts kk p) w ρ σ (k .next)) = true →
        wpAny D.M c.A (eval v c.env) (fun v s₁ => wpAny D.M c.A (assign (.Tuple ts kk p) c.env v) (fun _ => Q .next) E s₁) E s := fun v _ e => by
      refine Sn.E e H (fun b σ1 n1 va h1 t1 ex1 H1 hv1 e1 => ?_) (hX.toX H.rho)
      exact assignV_rule (s := up s h1 t1) e1 ow H1 hv1 (fun ρ4 m4 σ4 n4 h4 t4 ex4 H4 e4 => hQ .next ρ4 m4 σ4 n4 .next h4 t4 (ex1.trans ex4) H4 rfl e4)
    split at e
    · exact Assign_Tuple (go _ trivial e) rfl rfl
    · exact Assign_Tuple (go _ trivial e) rfl rfl
    · exact Assign_Tuple (go _ trivial e) rfl rfl
    · cases e
  · cases e
end
end Mine
end

section
/-! exceptions on their way -/
set_option maxRecDepth 100000
namespace Mine
open PySem PySem.W PySem.W.X PySem.Calls PyProof.Rows PySem.Spec

/-- behind a note upon an exception -/
structure Aft (base h h' : Heap) (fr : List Env) (l : News') (ea : Addr) (oe : Obj) (fl : Value) : Prop where
  stay : base.StaysIn h'
  frs : h'.FunFrames base fr
  ups : h.UpToSlots h'
  kept : ∀ p ∈ l, p.1 ≠ ea → h'.get? p.1 = some p.2
  exc : ∃ T oT ts, h'.get? ea = some (oe.mapFields (·.setIfInBounds 1 (.ref T))) ∧ base.get? T = none ∧ (∀ q ∈ l, q.1 ≠ T) ∧ h'.get? T = some oT ∧ oT.data = .fields ts ∧ ts[3]? = some fl
/-- what an exception on its way rests upon -/
structure Pre (base h : Heap) (fr : List Env) (l : News') (ea : Addr) (oe : Obj) (vs : Array Value) : Prop where
  stay : base.StaysIn h
  frs : h.FunFrames base fr
  at_ : ∀ p ∈ l, h.get? p.1 = some p.2 ∧ base.get? p.1 = none
  off : ∀ env ∈ fr, ∀ q ∈ l, env.frame ≠ some q.1
  mem : (ea, oe) ∈ l
  dat : oe.data = .fields vs
  sz : 1 < vs.size

section
variable {M : Model} {A : Around} {E : Value → Shared → Prop} {s : Shared} {base : Heap} {env : Env} {outer : List Env} {l : News'} {ea L : Addr} {oe : Obj} {vs : Array Value}
theorem entry_rule {head : Value} {hadNext : Bool} {Q : Unit → Shared → Prop} (hfr : A.frames = some (env :: outer)) (hf : env.frame = some L) (P : Pre base s.heap (env :: outer) l ea oe vs)
    (h : ∀ h', Aft base s.heap h' (env :: outer) l ea oe (rawInt L) → Q () { s with heap := h' }) :
    wpAny M A (do let a ← frameOf env; let pl ← entryPlaceOf L hadNext; let b ← EntryCells.newEntry head a .none (rawInt L) .none pl; setField (.ref ea) 1 b) Q E s := by
  obtain ⟨he, hen⟩ := P.at_ _ P.mem
  have hl := P.frs
  have hd := P.dat
  have off : ∀ q ∈ l, q.1 ∉ (env :: outer).filterMap (·.frame) := fun q hq hm => by
    obtain ⟨env', h1, h2⟩ := List.mem_filterMap.mp hm
    exact P.off env' h1 q hq h2
  have hene := off _ P.mem
  refine wpAny_bind (wpAny_frameOf_fun hfr hl hf fun h₁ hs₁ => ?_)
  refine wpAny_bind (wpAny_entryPlaceOf fun pl hpl => ?_)
  unfold EntryCells.newEntry newFields
  refine wpAny_bind (wpAny_newObj_type ?_ (hpl.sizeOk5 _ _ _ _ _))
  have he₁ : h₁.get? ea = some oe := (hs₁.2.1 ea hene).trans he
  have kb₁ : base.StaysIn h₁ := fun b o hbo => (hs₁.2.1 b fun hm => by rw [(hl.mem hm).1] at hbo; cases hbo).trans (P.stay b o hbo)
  have he₂ := Heap.get?_push_of_some (h := h₁) { cls := .type "traceback", dict := none, data := .fields ([head, .ref L, .none, rawInt L, .none] ++ (if pl.isEmpty then List.replicate 6 Value.none else pl)).toArray } he₁
  have hTe : h₁.objs.size ≠ ea := Nat.ne_of_gt (Heap.lt_size he₁)
  have hd₃ := Obj.data_mapFields hd (·.setIfInBounds 1 (Value.ref h₁.objs.size))
  have he₃ := Heap.get?_update_self (Obj.mapFields (·.setIfInBounds 1 (Value.ref h₁.objs.size))) he₂ (Obj.isFreed_of_fields hd₃)
  have hT₃ := (Heap.get?_update_other (h₁.push { cls := .type "traceback", dict := none, data := .fields ([head, .ref L, .none, rawInt L, .none] ++ (if pl.isEmpty then List.replicate 6 Value.none else pl)).toArray })
    (Obj.mapFields (·.setIfInBounds 1 (Value.ref h₁.objs.size))) (Ne.symm hTe)).trans (Heap.get?_push_size h₁ rfl)
  have keep : ∀ b o, b ≠ ea → h₁.get? b = some o →
      ((h₁.push { cls := .type "traceback", dict := none, data := .fields ([head, .ref L, .none, rawInt L, .none] ++ (if pl.isEmpty then List.replicate 6 Value.none else pl)).toArray }).update ea (Obj.mapFields (·.setIfInBounds 1 (Value.ref h₁.objs.size)))).get? b = some o := fun b o hbe hb => by
    rw [Heap.get?_update_other _ _ (Ne.symm hbe)]
    exact Heap.get?_push_of_some _ hb
  have noRecord : ∀ b o, s.heap.get? b = some o → (∀ vs, o.data ≠ .fields vs) → b ≠ ea := fun b o hb hnf q => by
    rw [q, he] at hb; injection hb with hb; subst hb; exact hnf vs hd
  refine wpAny_setField he₂ hd P.sz (h _ ⟨fun b o hbo => keep b o (fun q => by rw [q, hen] at hbo; cases hbo) (kb₁ b o hbo), hl.of_keeps fun b o hb hnf => ?_, fun b o hb hnf => ?_, fun p hp hne => ?_, h₁.objs.size, _, _, he₃, kb₁.fresh, fun q hq e => ?_, hT₃, rfl, ?_⟩)
  · obtain ⟨sl, hs⟩ := hs₁.2.2 b o hb
    exact ⟨_, keep b _ (noRecord b o hb hnf) hs, rfl⟩
  · obtain ⟨sl, hs⟩ := hs₁.2.2 b o hb
    exact ⟨sl, keep b _ (noRecord b o hb hnf) hs⟩
  · exact keep _ _ hne ((hs₁.2.1 _ (off p hp)).trans (P.at_ p hp).1)
  · have := (hs₁.2.1 _ (off q hq)).trans (P.at_ q hq).1
    exact absurd (Heap.lt_size this) (by rw [e]; exact Nat.lt_irrefl _)
  · first | rfl | (simp; done)

theorem note_rule {Q : Unit → Shared → Prop} (hfr : A.frames = some (env :: outer)) (hf : env.frame = some L) (P : Pre base s.heap (env :: outer) l ea oe vs)
    (T8 : vs[1]? = some .none ∨ ∃ T oT ts, vs[1]? = some (.ref T) ∧ base.get? T = none ∧ (∀ q ∈ l, q.1 ≠ T) ∧ s.heap.get? T = some oT ∧ oT.data = .fields ts ∧ ts[3]? = some .none)
    (h : ∀ h', Aft base s.heap h' (env :: outer) l ea oe (rawInt L) → Q () { s with heap := h' }) : wpAny M A (noteFrame (.ref ea) env) Q E s := by
  obtain ⟨he, hen⟩ := P.at_ _ P.mem
  have hd := P.dat
  unfold noteFrame
  simp only [hf]
  rcases T8 with h1 | ⟨T, oT, ts, h1, hbT, hlT, hT, hdT, h3⟩
  · refine wpAny_bind (wpAny_field he hd h1 ?_)
    rw [if_neg (by decide)]
    exact entry_rule hfr hf P h
  · refine wpAny_bind (wpAny_field he hd h1 ?_)
    rw [if_pos (show (Value.ref T != Value.none) = true from by simp)]
    refine wpAny_bind (wpAny_field hT hdT h3 ?_)
    rw [if_neg (show ¬ ((Value.none == rawInt L) = true) from by simp [rawInt])]
    refine wpAny_bind (wpAny_setField hT hdT (Array.getElem?_eq_some_iff.mp h3).1 ?_)
    have other : ∀ b, b ≠ T → (s.heap.update T (Obj.mapFields (·.setIfInBounds 3 Value.none))).get? b = s.heap.get? b := fun b hb => Heap.get?_update_other _ _ (Ne.symm hb)
    have noRecord : ∀ b o, s.heap.get? b = some o → (∀ vs, o.data ≠ .fields vs) → b ≠ T := fun b o hb hnf q => by
      rw [q, hT] at hb; injection hb with hb; subst hb; exact hnf ts hdT
    refine entry_rule (s := { s with heap := s.heap.update T (Obj.mapFields (·.setIfInBounds 3 Value.none)) }) hfr hf
      ⟨fun b o hbo => (other b fun q => by rw [q, hbT] at hbo; cases hbo).trans (P.stay b o hbo), P.frs.of_keeps fun b o hb hnf => ⟨o, (other b (noRecord b o hb hnf)).trans hb, rfl⟩,
        fun p hp => ⟨(other _ (hlT p hp)).trans (P.at_ p hp).1, (P.at_ p hp).2⟩, P.off, P.mem, P.dat, P.sz⟩ fun h' A => ?_
    exact h h' ⟨A.stay, A.frs, fun b o hb hnf => A.ups b o ((other b (noRecord b o hb hnf)).trans hb) hnf, A.kept, A.exc⟩

/-- the mark of the flight is taken off -/
theorem flight_rule {h₀ : Heap} {fr : List Env} {fl : Value} {Q : Unit → Shared → Prop} (A₀ : Aft base h₀ s.heap fr l ea oe fl) (hm : (ea, oe) ∈ l) (hbe : base.get? ea = none) (hd : oe.data = .fields vs) (hsz : 1 < vs.size)
    (h : ∀ h', Aft base h₀ h' fr l ea oe .none → Q () { s with heap := h' }) : wpAny M A (setFlight (.ref ea) none) Q E s := by
  obtain ⟨T, oT, ts, he, hbT, hlT, hT, hdT, h3⟩ := A₀.exc
  have hd' := Obj.data_mapFields hd (·.setIfInBounds 1 (Value.ref T))
  have hne : T ≠ ea := fun e => hlT _ hm e.symm
  have h3s := (Array.getElem?_eq_some_iff.mp h3).1
  unfold setFlight
  refine wpAny_bind (wpAny_field he hd' (x := .ref T) (by simp [hsz]) ?_)
  rw [if_pos (show (Value.ref T != Value.none) = true from by simp)]
  have other : ∀ b, b ≠ T → (s.heap.update T (Obj.mapFields (·.setIfInBounds 3 ((none : Option Addr).elim Value.none fun f => rawInt f)))).get? b = s.heap.get? b := fun b hb => Heap.get?_update_other _ _ (Ne.symm hb)
  have noRecord : ∀ b o, s.heap.get? b = some o → (∀ vs, o.data ≠ .fields vs) → b ≠ T := fun b o hb hnf q => by
    rw [q, hT] at hb; injection hb with hb; subst hb; exact hnf ts hdT
  refine wpAny_setField hT hdT h3s (h _ ⟨fun b o hbo => (other b fun q => by rw [q, hbT] at hbo; cases hbo).trans (A₀.stay b o hbo), A₀.frs.of_keeps fun b o hb hnf => ⟨o, (other b (noRecord b o hb hnf)).trans hb, rfl⟩,
    fun b o hb hnf => ?_, fun p hp hne' => (other _ (hlT p hp)).trans (A₀.kept p hp hne'), T, _, _, (other _ (Ne.symm hne)).trans he, hbT, hlT, Heap.get?_update_self _ hT (Obj.isFreed_of_fields (Obj.data_mapFields hdT _)), Obj.data_mapFields hdT _, by simp [h3s]⟩)
  obtain ⟨sl, hs⟩ := A₀.ups b o hb hnf
  exact ⟨sl, (other b (noRecord b _ hs hnf)).trans hs⟩
end

section
variable {D : Wd} {ih : Ev} {c c' : Cx} {cn : Cn} {d : Nat} {ρ ρ' : Loc} {m m' : Str → Option Value} {fz news : News'} {σ : St} {s : Shared} {A A' : Around} {E : Value → Shared → Prop} {h h' : Heap}

theorem SR.swap {R : Addr} {z : Nat} {ns : List Int} {P : Params} {h₀ h₀' : Heap} {L L' : Addr} (S : SR R z ns P h₀ L fz σ news h) {i : Nat} {a : Addr} {ob ob' : Obj} (hi : news[i]? = some (a, ob)) (hr : ∀ o, σ.get i = some o → OR R z P (adr news) o ob → OR R z P (adr news) o ob')
    (N : News h₀' L' h' (news.set i (a, ob') ++ fz)) : SR R z ns P h₀' L' fz σ (news.set i (a, ob')) h' := by
  have ha := adr_set (ob' := ob') hi
  refine ⟨S.rw, S.zl, N, ?_, by rw [List.length_set]; exact S.ln, S.lt, fun j q hj => ?_⟩
  · have := S.nd
    unfold adr at ha this ⊢
    rw [List.map_append] at this ⊢
    rw [ha]; exact this
  · rw [ha]
    obtain ⟨p, hp, r⟩ := S.ob j q hj
    by_cases ji : j = i
    · subst ji
      rw [hi] at hp; cases hp
      exact ⟨(a, ob'), by rw [List.getElem?_set_self (List.getElem?_eq_some_iff.mp hi).1], hr q hj r⟩
    · exact ⟨p, by rw [List.getElem?_set_ne (fun z => ji z.symm)]; exact hp, r⟩

/-- an exception on its way, taken apart -/
theorem fly_parts {b : AV} {v : Value} (hf : c.fe.frame = some c.L) (f : Fly D c m fz news σ b v h) : ∃ i C dd ea oe vs, b = .own i ∧ σ.get i = some (.trc C dd) ∧ (adr news)[i]? = some ea ∧ v = .ref ea ∧ news[i]? = some (ea, oe) ∧
    (∃ dx sl, (adr news)[dd]? = some dx ∧ oe = ({ cls := .ref C, dict := some dx, data := .fields vs, slots := sl } : Obj)) ∧ Pre c.base h (c.fe :: c.outer) (news ++ fz) ea oe vs ∧
    (vs[1]? = some .none ∨ ∃ T oT ts, vs[1]? = some (.ref T) ∧ c.base.get? T = none ∧ (∀ q ∈ news ++ fz, q.1 ≠ T) ∧ h.get? T = some oT ∧ oT.data = .fields ts ∧ ts[3]? = some .none) := by
  obtain ⟨i, C, dd, ea, h1, h2, h3, h4, h5, h6, h7, h8, h9, oe, vs, t1, t2, t3⟩ := f
  obtain ⟨a, ob, g1, g2, g3, dx, vs', sl, g4, rfl⟩ := h8.at h2
  rw [h3] at g2; cases g2
  rw [t1] at g3; cases g3
  cases t2
  refine ⟨i, C, dd, ea, _, vs, h1, h2, h3, h4, g1, ⟨dx, sl, g4, rfl⟩, ⟨h6, h7, fun p hp => ⟨(h8.nw p hp).1, (h8.nw p hp).2.2⟩, fun env he q hq => ?_, List.mem_append_left _ (List.mem_of_getElem? g1), rfl, ?_⟩, t3⟩
  · rcases List.mem_cons.mp he with rfl | he
    · rw [hf]; exact fun e => (h8.nw q hq).2.1 (Option.some.inj e).symm
    · exact h9 env he q hq
  · rcases t3 with t | ⟨_, _, _, t, _⟩ <;> exact (Array.getElem?_eq_some_iff.mp t).1

/-- behind the note: the ledger anew -/
theorem aft_ledger {base₀ : Heap} {L₀ : Addr} {i : Nat} {ea : Addr} {oe : Obj} {C dd : Nat} {vs : Array Value} {fr : List Env} {fl : Value} {g₁ : Heap} {L₁ : Addr} (S : SRD D g₁ L₁ fz σ news h) (hi : news[i]? = some (ea, oe)) (hs : σ.get i = some (.trc C dd))
    (ho : ∃ dx sl, (adr news)[dd]? = some dx ∧ oe = ({ cls := .ref C, dict := some dx, data := .fields vs, slots := sl } : Obj)) (A₀ : Aft base₀ h h' fr (news ++ fz) ea oe fl)
    (hn : ∀ p ∈ news ++ fz, p.1 ≠ L₀ ∧ base₀.get? p.1 = none) : ∃ n', adr n' = adr news ∧ SRD D base₀ L₀ fz σ n' h' ∧ (∃ oe' vs' T oT ts, n'[i]? = some (ea, oe') ∧ oe'.data = .fields vs' ∧ vs'.size = vs.size ∧ (1 < vs.size → vs'[1]? = some (.ref T)) ∧ base₀.get? T = none ∧ (∀ q ∈ n' ++ fz, q.1 ≠ T) ∧ h'.get? T = some oT ∧ oT.data = .fields ts ∧ ts[3]? = some fl) := by
  obtain ⟨T, oT, ts, he, hbT, hlT, hT, hdT, h3⟩ := A₀.exc
  obtain ⟨dx, sl, hdx, rfl⟩ := ho
  have ha := adr_set (ob' := Obj.mapFields (·.setIfInBounds 1 (.ref T)) ({ cls := .ref C, dict := some dx, data := .fields vs, slots := sl } : Obj)) hi
  obtain ⟨pre, post, e1, e2, h1, h2⟩ := (S.upd (ob' := Obj.mapFields (·.setIfInBounds 1 (.ref T)) ({ cls := .ref C, dict := some dx, data := .fields vs, slots := sl } : Obj)) hi).split
  have N : News base₀ L₀ h' (news.set i (ea, Obj.mapFields (·.setIfInBounds 1 (.ref T)) ({ cls := .ref C, dict := some dx, data := .fields vs, slots := sl } : Obj)) ++ fz) := by
    rw [e2]
    intro p hp
    rcases List.mem_append.mp hp with hp | hp
    · have hm : p ∈ news ++ fz := by rw [e1]; exact List.mem_append_left _ hp
      exact ⟨A₀.kept p hm (h1 p hp), hn p hm⟩
    · rcases List.mem_cons.mp hp with rfl | hp
      · exact ⟨he, hn (ea, ({ cls := .ref C, dict := some dx, data := .fields vs, slots := sl } : Obj)) (by rw [e1]; simp)⟩
      · have hm : p ∈ news ++ fz := by rw [e1]; exact List.mem_append_right _ (.tail _ hp)
        exact ⟨A₀.kept p hm (h2 p hp), hn p hm⟩
  have hsw : SRD D base₀ L₀ fz σ (news.set i (ea, Obj.mapFields (·.setIfInBounds 1 (.ref T)) ({ cls := .ref C, dict := some dx, data := .fields vs, slots := sl } : Obj))) h' := S.swap hi (fun o q r => by
    rw [hs] at q; cases q
    exact ⟨dx, _, sl, hdx, rfl⟩) N
  refine ⟨_, ha, hsw, Obj.mapFields (·.setIfInBounds 1 (.ref T)) ({ cls := .ref C, dict := some dx, data := .fields vs, slots := sl } : Obj), _, T, oT, ts, by rw [List.getElem?_set_self (List.getElem?_eq_some_iff.mp hi).1], rfl, by simp, fun hsz => by simp [hsz], hbT, fun q hq => ?_, hT, hdT, h3⟩
  rw [e2] at hq
  rcases List.mem_append.mp hq with hq | hq
  · exact hlT q (by rw [e1]; exact List.mem_append_left _ hq)
  · rcases List.mem_cons.mp hq with rfl | hq
    · exact hlT (ea, ({ cls := .ref C, dict := some dx, data := .fields vs, slots := sl } : Obj)) (by rw [e1]; simp)
    · exact hlT q (by rw [e1]; exact List.mem_append_right _ (.tail _ hq))

theorem leave_fly {b : AV} {v : Value} {Q : Unit → Shared → Prop} (ok : c'.Ok D cn d) (hb : c'.base = c.base) (ho : c'.outer = c.fe :: c.outer) (he : c'.env = c'.fe) (FG : Fr c.h₀ c.L c'.h₀ m) (hf : c.fe.frame = some c.L)
    (f : Fly D c' m' fz news σ b v s.heap) (h : ∀ n' h t, adr n' = adr news → Fly D c m fz n' σ b v h → Q () (up s h t)) : wpAny D.M c'.A (leaving c'.env v) Q E s := by
  obtain ⟨i, C, dd, ea, oe, vs, rfl, p2, p3, rfl, p5, p6, P, T8⟩ := fly_parts ok.hf f
  obtain ⟨_, _, _, _, _, _, _, _, ⟨g', Fg', ug'⟩, h6, h7, h8, h9, _⟩ := f
  rw [he]
  unfold leaving
  refine wpAny_bind (note_rule ok.hA ok.hf P T8 (fun h1 A1 => ?_))
  have hm := P.mem
  refine flight_rule (s := { s with heap := h1 }) A1 hm (P.at_ _ hm).2 P.dat P.sz (fun h2 A2 => ?_)
  have hnb : ∀ p ∈ news ++ fz, p.1 ≠ c.L ∧ c'.base.get? p.1 = none := fun p hp => ⟨fun e => h9 c.fe (by rw [ho]; exact .head _) p hp (by rw [hf, e]), (P.at_ p hp).2⟩
  obtain ⟨n', q1, q2, oe', vs', T, oT, ts, q3, q4, q5, q6, q7, q8, q9, q10, q11⟩ := aft_ledger (L₀ := c.L) h8 p5 p2 p6 A2 hnb
  refine h n' h2 s.toks q1 ⟨i, C, dd, ea, rfl, p2, by rw [q1]; exact p3, rfl, ⟨c'.h₀, FG, ?_⟩, hb ▸ A2.stay, ?_, hb ▸ q2, fun env henv q hq e => ?_, oe', vs', (q2.nw _ (List.mem_append_left _ (List.mem_of_getElem? q3))).1, q4, .inr ⟨T, oT, ts, q6 P.sz, hb ▸ q7, q8, q9, q10, q11⟩⟩
  · exact (Heap.UpToSlots.of_keeps Fg'.keep).trans (ug'.trans A2.ups)
  · have := A2.frs
    rw [ho, hb] at this
    exact this.2.2
  · have hmem : q.1 ∈ (n' ++ fz).map (·.1) := List.mem_map_of_mem hq
    have heq : (n' ++ fz).map (·.1) = (news ++ fz).map (·.1) := by
      rw [List.map_append, List.map_append]
      show adr n' ++ _ = adr news ++ _
      rw [q1]
    rw [heq] at hmem
    obtain ⟨q', hq', e'⟩ := List.mem_map.mp hmem
    exact h9 env (by rw [ho]; exact .tail _ henv) q' hq' (by rw [e, e'])
end
end Mine
end

section
/-! raise, and a handler -/
set_option maxRecDepth 100000
namespace Mine
open PySem PySem.W PySem.W.X PySem.Calls PyProof.Rows PySem.Spec

section
variable {D : Wd} {ih : Ev} {c c' : Cx} {cn : Cn} {d : Nat} {ρ ρ' : Loc} {m m' : Str → Option Value} {fz news : News'} {σ : St} {s : Shared} {A A' : Around} {E : Value → Shared → Prop} {h h' : Heap}

theorem raise_core {M : Model} {K : Frag} {C e : Addr} {oe : Obj} {vs : Array Value} {env : Env} {Q : Flow → Shared → Prop} (X : K.In s.heap) (hx : excNewIn K C = true) (he : s.heap.get? e = some oe) (hc : oe.cls = .ref C) (hd : oe.data = .fields vs) (h1 : vs[1]? = some .none)
    (hh : A.handled = none) (hE : E (.ref e) s) : wpAny M A (raiseStmt env (some (pure (.ref e))) none) Q E s := by
  obtain ⟨e7, e8, nm, qn, N, bs, bm, hd', sn, sub, ab, col, dd, k0, k1, k2, k3, k5, hC, T⟩ := excNew_of X hx
  have hcB : (Value.ref C :: bm).contains (.type "BaseException") = true := by rw [List.contains_cons, T.hasType (b := true) (by decide +kernel), Bool.or_true]
  obtain ⟨hp, g, dr, tk, os⟩ := s
  unfold raiseStmt
  refine wpAny_bind (wpAny_pure ?_)
  repeat (first | (with_reducible refine wpAny_loadPart_at he ?_; rw [hc]) | with_reducible refine wpAny_loadPart_at he ?_ | with_reducible refine wpAny_loadPart_at hC ?_ | (with_reducible refine wpAny_isSubtype_exc hC ?_; rw [hcB]) | with_reducible refine wpAny_field he hd h1 ?_ | wp_step)
  exact wpAny_raiseNew_none hh hE

theorem frame_in {base h : Heap} {l : List Env} (H : h.FunFrames base l) : ∀ env ∈ l, ∃ L o, env.frame = some L ∧ h.get? L = some o := by
  induction l with
  | nil => intro env he; cases he
  | cons e l ih =>
    intro env he
    obtain ⟨_, ⟨L, o, hf, _, ho, _⟩, hr⟩ := H
    rcases List.mem_cons.mp he with rfl | he
    · exact ⟨L, o, hf, ho⟩
    · exact ih hr env he

theorem raise_rule (O : D.Ok) (S : Snd D ih) {ex cause : Option Expr} {pos : Pos} {x : KX} {Q : Flow → Shared → Prop} (e : evRaise D.G ih d cn ex cause ρ σ x = true) (ow : Own c) (H : Here D c cn d ρ m fz news σ s.heap)
    (hX : PostXs D c fz news x s E) : wpAny D.M c.A (exec (.Raise ex cause pos) c.env) Q E s := by
  unfold evRaise at e
  split at e
  · rename_i ex
    rw [arm_exec_Raise]
    refine wpAny_bind (wpAny_standAt ?_)
    show wpAny D.M c.A (raiseStmt c.env (some (do let v ← eval ex c.env; standAt pos; pure v)) none) Q E s
    have hsplit : raiseStmt c.env (some (do let v ← eval ex c.env; standAt pos; pure v)) none = ((do let v ← eval ex c.env; standAt pos; pure v) >>= fun v => raiseStmt c.env (some (pure v)) none) := rfl
    rw [hsplit]
    refine wpAny_bind (wpAny_bind (S.E e H (fun b σ1 n1 va h1 t1 ex1 H1 hv1 e1 => ?_) (hX.toX H.rho)))
    refine wpAny_bind (wpAny_standAt (wpAny_pure ?_))
    dsimp only at e1
    split at e1
    · rename_i i
      split at e1
      · rename_i C di hg
        split at e1
        · rename_i cd hcd
          split at e1
          · rename_i hb
            obtain ⟨hrz, hexc⟩ := Bool.and_eq_true_iff.mp hb
            have OC := O.cls C cd hcd
            obtain ⟨a, ob, rfl, g1, g2, dx, vs, sl, g3, rfl, g4, g5⟩ := H1.S.atV hg hv1
            refine raise_core (s := up s h1 t1) H1.X (OC.xn hexc) g2 rfl rfl g5 (H1.ok.hh hrz) ?_
            obtain ⟨A₀, B⟩ := H1.ok.B
            have hnb : ∀ p ∈ n1 ++ fz, c.base.get? p.1 = none := fun p hp => by
              cases q : c.base.get? p.1 with
              | none => rfl
              | some o => have := B.stays _ _ q; rw [(H1.S.nw p hp).2.2] at this; cases this
            have hset : n1.set i (a, ({ cls := .ref C, dict := some dx, data := .fields vs, slots := sl } : Obj)) = n1 := by
              apply List.ext_getElem?
              intro j
              by_cases ji : j = i
              · subst ji; rw [List.getElem?_set_self (List.getElem?_eq_some_iff.mp g1).1, g1]
              · rw [List.getElem?_set_ne (fun z => ji z.symm)]
            have S1 := H1.S.set (o' := .trc C di) hg g1 ⟨dx, vs, sl, g3, rfl⟩ (by rw [hset]; exact H1.S.nw)
            rw [hset] at S1
            have hLn : c.base.get? c.L = none := by
              cases q : c.base.get? c.L with
              | none => rfl
              | some o => exact absurd (Nat.lt_of_lt_of_le (Heap.lt_size (B.stays _ _ q)) H1.F.above) (Nat.lt_irrefl _)
            refine hX _ ρ m _ n1 _ h1 t1 ex1 (H1.rho) ⟨i, C, di, a, rfl, ?_, by simp [adr, g1], rfl, ⟨h1, H1.F, .refl _⟩, fun b o q => H1.F.keep b o (B.stays b o q), ?_, ⟨S1.rw, S1.zl, (fun p hp => ⟨(H1.S.nw p hp).1, (H1.S.nw p hp).2.1, hnb p hp⟩), S1.nd, S1.ln, S1.lt, S1.ob⟩, fun env henv q hq hfr => ?_, _, vs, g2, rfl, .inl g5⟩ e1
            · have lt := H1.S.idx hg
              have le := H1.S.lt
              show (Tr.put 13 σ1.t i _).get i = _
              rw [Tr.get_put _ 13 σ1.t i i (by omega), if_pos rfl]
            · exact .cons (by rw [H1.ok.hfk]; decide) H1.ok.hf H1.F.ns hLn (B.frames.of_keeps fun b o q _ => ⟨o, H1.F.keep b o q, rfl⟩)
            · obtain ⟨L', o', hf', ho'⟩ := frame_in B.frames env henv
              rw [hf'] at hfr; cases hfr
              rw [(H1.S.nw q hq).2.2] at ho'; cases ho'
          · cases e1
        · cases e1
      · cases e1
    · cases e1
  · cases e

theorem rho_drop {n : Str} {as : As} {v : Option Value} (ow : Own c) (N : News c.h₀ c.L h (news ++ fz)) (r : Rho c ρ m fz as) : Rho c (drop n ρ) (fun x => if x = n then v else m x) fz as := by
  have key : ∀ {ρ : Loc} {x : Str} {en : Ent}, lk (drop n ρ) x = some en → x ≠ n ∧ lk ρ x = some en := by
    intro ρ
    induction ρ with
    | nil => intro x en h; cases h
    | cons p r ih =>
      intro x en h
      unfold drop at h
      split at h
      · rename_i q
        obtain ⟨h1, h2⟩ := ih h
        refine ⟨h1, ?_⟩
        rw [lk_cons]
        cases z : seq p.1 x with
        | true => exact absurd ((seq_iff.mp z).symm.trans (seq_iff.mp q)) h1
        | false => exact h2
      · rename_i q
        rw [lk_cons] at h ⊢
        cases z : seq p.1 x with
        | true =>
          rw [z] at h
          exact ⟨fun e => (by rw [e] at z; rw [z] at q; cases q), h⟩
        | false => rw [z] at h; exact ih h
  obtain ⟨⟨ml, l, r1⟩, r2⟩ := r
  have : ml = m := by
    rcases l with ⟨_, l⟩ | ⟨ob, es, ep, h1, _⟩
    · exact l
    · exact absurd ow.2 (N _ (List.mem_append_right _ h1)).2.1
  subst this
  refine ⟨⟨_, .inl ⟨ow.2, rfl⟩, fun x a hx => ?_⟩, fun x i hx => r2 x i (key hx).2⟩
  obtain ⟨h1, h2⟩ := key hx
  obtain ⟨q1, u, q2, q3⟩ := r1 x a h2
  exact ⟨q1, u, by rw [if_neg h1]; exact q2, q3⟩

theorem name_ex {G : Sg} {x : Str} {k : KE} (e : evName G cn x ρ σ k = true) : ∃ b, k b σ = true := by
  unfold evName at e
  split at e
  · exact ⟨_, e⟩
  · split at e
    · exact ⟨_, e⟩
    · cases e
  · split at e
    · split at e
      · exact ⟨_, e⟩
      · cases e
    · cases e
theorem name_val (O : D.Ok) {x : Str} {pos : Pos} {k : KE} (e : evName D.G cn x ρ σ k = true) (H : Here D c cn d ρ m fz news σ s.heap) :
    ∃ b, k b σ = true ∧ ∀ {A : Around} {E : Value → Shared → Prop} {Q : Value → Shared → Prop}, (∀ v, VR (adr news) b v → Q v s) → wpAny D.M A (eval (.Name x pos) c.env) Q E s := by
  unfold evName at e
  split at e
  · rename_i a hl
    obtain ⟨⟨ml, l, r⟩, _⟩ := H.rho
    obtain ⟨q1, v, q2, q3⟩ := r x a hl
    exact ⟨a, e, fun h => wpAny_Name (wpAny_loadName_local H.ok.hk q1 (l.ns H.F H.S.nw) q2 (h v q3)) (H.dbg q1)⟩
  · rename_i i hl
    split at e
    · rename_i a hg
      obtain ⟨q1, ca, q2, q3⟩ := H.rho.cel x i hl
      obtain ⟨a', ob, h1, h2, h3, v?, h4, h5⟩ := H.S.at hg
      rw [q3] at h2; cases h2
      obtain ⟨v, rfl, h6⟩ := h5
      exact ⟨a, e, fun h => wpAny_Name (wpAny_loadName_cell H.ok.hk q1 q2 ⟨ob, h3, h4⟩ (h v h6)) (H.dbg q1)⟩
    · cases e
  · split at e
    · rename_i hn
      have q1 := H.ok.nmg x hn
      split at e
      · rename_i a hg
        have g := O.glob x a hg
        refine ⟨a, e, fun h => ?_⟩
        refine Name_function_global H.ok.hk q1 ?_ (H.dbg q1)
        have hgl : s.heap.Ns c.env.globals D.mg := by rw [H.ok.hg]; exact H.ok.TR.g.keeps H.F.keep
        cases a with
        | old a => exact loadGlobal_global hgl (mg_of H.ok.X H.ok.TR.g g) (h _ rfl)
        | bi b =>
          obtain ⟨g1, g2, g3⟩ := g
          refine loadGlobal_builtin hgl (mg_none_of H.ok.X H.ok.TR.g g1) (by rw [H.ok.hb]; exact H.ok.TR.b.keeps H.F.keep) ((H.ok.TR.builtins x g3).trans g2) (h _ rfl)
        | _ => exact g.elim
      · cases e
    · cases e
theorem mark_ok (ok : c.Ok D cn d) (hv : Option Value) : ({ c with A := c.A.mark hv } : Cx).Ok D ⟨cn.names, false⟩ d :=
  ⟨ok.X, ok.H, ok.TR, ok.B, by show (c.A.mark hv).frames = _; rw [show (c.A.mark hv).frames = c.A.frames from by cases c.A; rfl]; exact ok.hA, ok.hf, ok.hfk, ok.ef, ok.hk, ok.hg, ok.hb, ok.dbg, ok.nml, ok.nmg,
    by show (c.A.mark hv).depth + _ ≤ _; rw [show (c.A.mark hv).depth = c.A.depth from by cases c.A; rfl]; exact ok.dep, by show (c.A.mark hv).units + _ ≤ _; rw [show (c.A.mark hv).units = c.A.units from by cases c.A; rfl]; exact ok.uni, fun h => (by cases h), ok.dl, ok.seer, ok.top⟩

theorem handle_fly (O : D.Ok) (S : Snd D ih) {hs : List ExceptHandler} {b : AV} {v : Value} {k : KS} {Q : Flow → Shared → Prop} (e : handle D.G ih d cn hs b ρ σ k = true) (ow : Own c) (ok : c.Ok D cn d) (hr : Rho c ρ m fz (adr news)) (f : Fly D c m fz news σ b v s.heap)
    (hQ : PostS D c cn d fz news k s Q) : wpAny D.M c.A (noteFrame v c.env) (fun _ s₂ => wpAny D.M c.A (setFlight v none) (fun _ s₃ => wpAny D.M c.A (handleBy v c.env hs) Q E s₃) E s₂) E s := by
  unfold handle at e
  split at e
  · rename_i xn xp n b0 bs pos
    obtain ⟨i, C, dd, ea, oe, vs, rfl, p2, p3, rfl, p5, p6, P, T8⟩ := fly_parts ok.hf f
    obtain ⟨_, _, _, _, _, _, _, _, ⟨g', Fg', ug'⟩, h6, h7, h8, h9, _⟩ := f
    rw [ow.1]
    have hm := P.mem
    have hnb : ∀ p ∈ news ++ fz, p.1 ≠ c.L ∧ c.base.get? p.1 = none := fun p hp => ⟨(h8.nw p hp).2.1, (P.at_ p hp).2⟩
    -- the frame again
    have back : 30 ≤ d → ∀ {h' : Heap}, Aft c.base s.heap h' (c.fe :: c.outer) (news ++ fz) ea oe .none → ∃ n', adr n' = adr news ∧ Here D c cn d ρ m fz n' σ h' := by
      intro h30 h' A0
      obtain ⟨n', q1, q2, _⟩ := aft_ledger (L₀ := c.L) h8 p5 p2 p6 A0 hnb
      refine ⟨n', q1, ok, ?_, by rw [← ok.top h30]; exact q2, by rw [q1]; exact hr⟩
      exact Fg'.of_stays (by rw [← ok.top h30]; exact A0.stay) (ug'.trans A0.ups)
    refine note_rule ok.hA ok.hf P T8 (fun h1 A1 => ?_)
    refine flight_rule (s := { s with heap := h1 }) A1 hm (P.at_ _ hm).2 P.dat P.sz (fun h2 A2 => ?_)
    rw [← ow.1]
    obtain ⟨cv0, hcv0⟩ := name_ex e
    have h30 : 30 ≤ d := by
      split at hcv0
      · split at hcv0
        · split at hcv0
          · rename_i q
            exact Nat.le_of_ble_eq_true (Bool.and_eq_true_iff.mp q).2
          · cases hcv0
        · cases hcv0
      · cases hcv0
    obtain ⟨n2, a2, H2⟩ := back h30 A2
    have hnb2 : (Value.ref ea : Value) ≠ byPass := by intro q; cases q
    obtain ⟨cv, hcv, hval⟩ := name_val (s := up s h2 s.toks) (pos := xp) O e H2
    split at hcv
    · rename_i C' i' hii
      cases hii
      split at hcv
      · rename_i D' dd' hg
        rw [p2] at hg; cases hg
        split at hcv
        · rename_i q
          obtain ⟨q, _⟩ := Bool.and_eq_true_iff.mp q
          obtain rfl := Nat.eq_of_beq_eq_true q
          split at hcv
          · rename_i cd hcd
            split at hcv
            · rename_i hexc
              split at hcv
              · rename_i hnl
                have OC := O.cls C' cd hcd
                refine wpAny_handleBy_cons (codeAny_handlers_test (hval (fun v hv => ?_))) hnb2
                obtain rfl : v = .ref C' := hv
                have X2 : D.K.In h2 := H2.X
                obtain ⟨n2', ob2, g1, g2, g3, dx2, vs2, sl2, g4, rfl⟩ := H2.S.at p2
                obtain ⟨e7, e8, nm, qn, N, bms, bm, hd', sn, sub, ab, col, ddd, k0, k1, k2, k3, k5, hC, TL⟩ := excNew_of X2 (OC.xn hexc)
                obtain rfl : ea = n2' := by rw [a2, p3] at g2; cases g2; rfl
                refine wpAny_excMatches_sub_self hC g3 rfl (TL.hasType (by decide +kernel)) (codeAny_handlers_suite_as ?_)
                refine flight_rule (s := up s h2 s.toks) A2 hm (P.at_ _ hm).2 P.dat P.sz (fun h3 A3 => ?_)
                obtain ⟨n3, a3, H3⟩ := back h30 A3
                let c2 : Cx := { c with A := c.A.mark (some (.ref ea)) }
                have H4 : Here D c2 ⟨cn.names, false⟩ d ρ m fz n3 σ h3 := ⟨mark_ok H3.ok _, H3.F, H3.S, ⟨H3.rho.loc, H3.rho.cel⟩⟩
                have hv4 : VR (adr n3) (.own i) (.ref ea) := ⟨ea, by rw [a3]; exact p3, rfl⟩
                have est : storeName' (⟨cn.names, false⟩ : Cn) n (.own i) ρ σ (fun ρ' σ' => ih.Ss d ⟨cn.names, false⟩ (b0 :: bs) ρ' σ' nxs fun fl ρ σ => k fl (drop n ρ) σ) = true := by
                  unfold storeName'
                  rw [show lk (⟨cn.names, false⟩ : Cn).names n = some .local from hnl]
                  exact hcv
                refine storeN_rule (c := c2) (s := up s h3 s.toks) est ow H4 hv4 (fun ρ5 m5 σ5 n5 h5 t5 ex5 H5 e5 => ?_)
                refine S.Ss (c := c2) (s := up s h5 t5) e5 ow H5 (fun fl ρ6 m6 σ6 n6 fw h6 t6 ex6 H6 hf6 e6 => ?_) PostXs.nx
                have hnk : c.env.kindOf n = some .local := ok.nml n hnl
                have hpp : (c.env.scope.kind == .class || (c.env.scope.kind == .module && c.env.locals != c.env.globals)) = false := by rw [ok.hk]; rfl
                refine wpAny_nameGoes_keeps (s := up s h6 t6) hnk (show h6.Ns c.env.locals m6 by rw [ow.2]; exact H6.F.ns) hpp (fun h7 u hns7 hs7 => ?_)
                rw [ow.2] at hns7 hs7
                have H7 : Here D c cn d (drop n ρ6) (fun x => if x = n then u else m6 x) fz n6 σ6 h7 :=
                  ⟨ok, H6.F.set hns7 hs7, ⟨H6.S.rw, H6.S.zl, H6.S.nw.set hs7, H6.S.nd, H6.S.ln, H6.S.lt, H6.S.ob⟩, rho_drop ow H6.S.nw (show Rho c ρ6 m6 fz (adr n6) from ⟨H6.rho.loc, H6.rho.cel⟩)⟩
                refine hQ fl (drop n ρ6) _ σ6 n6 fw h7 (t6 + 1) ?_ H7 hf6 e6
                have := ex5.trans ex6
                rw [a3] at this
                exact this
              · cases hcv
            · cases hcv
          · cases hcv
        · cases hcv
      · cases hcv
    · cases hcv
  · cases e
end
end Mine
end

section
/-! one step of a statement -/
set_option maxRecDepth 100000
namespace Mine
open PySem PySem.W PySem.W.X PySem.Calls PyProof.Rows PySem.Spec

section
variable {D : Wd} {ih : Ev} {c : Cx} {cn : Cn} {d : Nat} {ρ ρ' : Loc} {m : Str → Option Value} {fz fz' news : News'} {σ : St} {s : Shared} {A : Around} {E : Value → Shared → Prop} {h h' : Heap} {a : Addr} {o o' : Obj}

theorem evTry_rule (O : D.Ok) (S : Snd D ih) {b : List Stmt} {hs : List ExceptHandler} {orelse fin : List Stmt} {pos : Pos} {x : KX} {k : KS} {Q : Flow → Shared → Prop} (e : evTry D.G ih d cn b hs orelse fin ρ σ x k = true) (ow : Own c) (H : Here D c cn d ρ m fz news σ s.heap)
    (hQ : PostS D c cn d fz news k s Q) (hX : PostXs D c fz news x s E) : wpAny D.M c.A (exec (.Try b hs orelse fin pos) c.env) Q E s := by
  unfold evTry at e
  split at e
  · split at e
    · split at e
      · cases e
      · rename_i h0 hs'
        refine wpAny_Try_except (S.Ss e ow H (fun fl ρ1 m1 σ1 n1 f h1 t1 ex1 H1 hf e1 => ?_) (fun b' ρ1 m1 σ1 n1 v h1 t1 ex1 r1 fly1 e1 => ?_))
        · have fin : Q f (up s h1 t1) := hQ fl ρ1 m1 σ1 n1 f h1 t1 ex1 H1 hf e1
          cases fl with
          | next => obtain rfl : f = .next := hf; exact wpAny_execs_nil fin
          | cont => obtain rfl : f = .cont := hf; exact fin
          | brk => obtain rfl : f = .brk := hf; exact fin
          | ret w => obtain ⟨v, rfl, hv⟩ := hf; exact fin
        · exact handle_fly (s := up s h1 t1) O S e1 ow H.ok r1 fly1 (hQ.on ex1)
    · rename_i f0 fs
      have fin : ∀ {E' : Value → Shared → Prop} fl ρ1 m1 σ1 n1 f h1 t1, Ex (adr news) (adr n1) → Here D c cn d ρ1 m1 fz n1 σ1 h1 → FlR (adr n1) fl f → (ih.Ss d cn (f0 :: fs) ρ1 σ1 nxs fun fl' ρ σ => match fl' with | .next => k fl ρ σ | _ => false) = true →
          wpAny D.M c.A (execs (f0 :: fs) c.env) (fun g s' => match g with | .next => Q f s' | g => Q g s') E' (up s h1 t1) := by
        intro E' fl ρ1 m1 σ1 n1 f h1 t1 ex1 H1 hf e1
        refine S.Ss (s := up s h1 t1) e1 ow H1 (fun fl' ρ2 m2 σ2 n2 g h2 t2 ex2 H2 hg e2 => ?_) PostXs.nx
        cases fl' with
        | next =>
          obtain rfl : g = .next := hg
          refine hQ fl ρ2 m2 σ2 n2 f h2 t2 (ex1.trans ex2) H2 ?_ e2
          cases fl with
          | next => exact hf
          | cont => exact hf
          | brk => exact hf
          | ret w => obtain ⟨v, rfl, hv⟩ := hf; exact ⟨v, rfl, hv.ex ex2⟩
        | cont => cases e2
        | brk => cases e2
        | ret w => cases e2
      cases hs with
      | nil =>
        refine wpAny_Try_finally (S.Ss e ow H (fun fl ρ1 m1 σ1 n1 f h1 t1 ex1 H1 hf e1 => ?_) PostXs.nx)
        cases fl with
        | next => obtain rfl : f = .next := hf; exact wpAny_execs_nil (fin .next _ _ _ _ _ _ _ ex1 H1 rfl e1)
        | cont => obtain rfl : f = .cont := hf; exact fin .cont _ _ _ _ _ _ _ ex1 H1 rfl e1
        | brk => obtain rfl : f = .brk := hf; exact fin .brk _ _ _ _ _ _ _ ex1 H1 rfl e1
        | ret w => obtain ⟨v, rfl, hv⟩ := hf; exact fin (.ret w) _ _ _ _ _ _ _ ex1 H1 ⟨v, rfl, hv⟩ e1
      | cons h0 hs' =>
        refine wpAny_Try_except_finally (S.Ss e ow H (fun fl ρ1 m1 σ1 n1 f h1 t1 ex1 H1 hf e1 => ?_) PostXs.nx)
        cases fl with
        | next => obtain rfl : f = .next := hf; exact wpAny_execs_nil (fin .next _ _ _ _ _ _ _ ex1 H1 rfl e1)
        | cont => obtain rfl : f = .cont := hf; exact fin .cont _ _ _ _ _ _ _ ex1 H1 rfl e1
        | brk => obtain rfl : f = .brk := hf; exact fin .brk _ _ _ _ _ _ _ ex1 H1 rfl e1
        | ret w => obtain ⟨v, rfl, hv⟩ := hf; exact fin (.ret w) _ _ _ _ _ _ _ ex1 H1 ⟨v, rfl, hv⟩ e1
  · cases e

theorem stepS {n : Nat} (O : D.Ok) (S : ∀ j, j ≤ n → Snd D (ev D.G j)) : SndS D (ev D.G (n + 1)) := by
  have Sn := S n (Nat.le_refl _)
  intro d cn st ρ σ x k e c m fz news s Q E ow H hQ hX
  change evS D.G (ev D.G n) d cn st ρ σ x k = true at e
  unfold evS at e
  split at e
  · rename_i ex p
    split at e
    · rename_i hc
      have hi : interactive c.env = false := by unfold interactive; rw [H.ok.hk]; rfl
      exact wpAny_Expr_any (Sn.E e H (fun b σ1 n1 va h1 t1 ex1 H1 hv1 e1 => hQ .next ρ m σ1 n1 .next h1 t1 ex1 H1 rfl e1) (hX.toX H.rho)) hi (swap_no hc)
    · cases e
  · exact wpAny_Pass (hQ .next ρ m σ news .next s.heap s.toks (Ex.refl _) H rfl e)
  · split at e
    · exact wpAny_Return_some (Sn.E e H (fun b σ1 n1 va h1 t1 ex1 H1 hv1 e1 => hQ (.ret b) ρ m σ1 n1 _ h1 t1 ex1 H1 ⟨va, rfl, hv1⟩ e1) (hX.toX H.rho))
    · exact wpAny_Return_none (hQ (.ret .none) ρ m σ news _ s.heap s.toks (Ex.refl _) H ⟨.none, rfl, rfl⟩ e)
  · split at e
    · exact evAssign_rule O S e ow H hQ hX
    · cases e
  · exact evAug_rule O Sn e ow H hQ hX
  · refine wpAny_If (Sn.T e H (fun q σ1 n1 h1 t1 ex1 H1 e1 => ?_) (hX.toX H.rho))
    dsimp only at e1
    split at e1
    · rw [if_pos rfl]; exact Sn.Ss (s := up s h1 t1) e1 ow H1 (hQ.on ex1) (hX.on ex1)
    · rw [if_neg (by decide)]; exact Sn.Ss (s := up s h1 t1) e1 ow H1 (hQ.on ex1) (hX.on ex1)
  · split at e
    · split at e
      · rename_i hrz
        refine wpAny_For (iter_rule (A := c.A) O Sn e H (hX.toX H.rho) (fun i σ1 n1 a o h1 t1 ex1 H1 hi e1 => ?_)).1 (iter_fold e)
        exact for_rule (s := up s h1 t1) S e1 ow hrz H1 hi (hQ.on ex1)
      · cases e
    · cases e
  · split at e
    · exact wpAny_While (while_rule S e ow H hQ)
    · cases e
  · exact evTry_rule O Sn e ow H hQ hX
  · exact raise_rule O Sn e ow H hX
  · cases e

theorem stepSs {n : Nat} (S : Snd D (ev D.G n)) : SndSs D (ev D.G (n + 1)) := by
  intro d cn sts ρ σ x k e c m fz news s Q E ow H hQ hX
  change evSs (ev D.G n) d cn sts ρ σ x k = true at e
  unfold evSs at e
  split at e
  · exact wpAny_execs_nil (hQ .next ρ m σ news .next s.heap s.toks (Ex.refl _) H rfl e)
  · rename_i st r
    refine wpAny_execs_cons (S.S e ow H (fun fl ρ1 m1 σ1 n1 f h1 t1 ex1 H1 hf e1 => ?_) hX)
    cases fl with
    | next => obtain rfl : f = .next := hf; exact S.Ss (s := up s h1 t1) e1 ow H1 (hQ.on ex1) (hX.on ex1)
    | cont => obtain rfl : f = .cont := hf; exact hQ .cont ρ1 m1 σ1 n1 .cont h1 t1 ex1 H1 rfl e1
    | brk => obtain rfl : f = .brk := hf; exact hQ .brk ρ1 m1 σ1 n1 .brk h1 t1 ex1 H1 rfl e1
    | ret w => obtain ⟨v, rfl, hv⟩ := hf; exact hQ (.ret w) ρ1 m1 σ1 n1 _ h1 t1 ex1 H1 ⟨v, rfl, hv⟩ e1
end
end Mine
end

section
/-! the parameters of a call -/
set_option maxRecDepth 100000
namespace Mine
open PySem PySem.W PySem.W.X PySem.Calls PyProof.Rows PySem.Spec

theorem zip_cut {α β : Type} : ∀ (j : Nat) (l : List α) (m : List β), l.zip m = (l.take j).zip (m.take j) ++ (l.drop j).zip (m.drop j)
  | 0, l, m => by simp
  | j + 1, [], m => by simp
  | j + 1, a :: l, [] => by simp
  | j + 1, a :: l, b :: m => by simpa using zip_cut j l m
theorem look_keys {β : Type} (n : Str) : ∀ l : List (Str × β), (l.lookup n).isSome = true ↔ n ∈ l.map (·.1)
  | [] => by simp
  | (x, b) :: l => by
    rw [List.lookup_cons, List.map_cons, List.mem_cons]
    cases h : n == x with
    | true => simp [beq_iff_eq.mp h]
    | false =>
      have := beq_eq_false_iff_ne.mp h
      simp only [this, false_or]
      exact look_keys n l
theorem zip_take {α β : Type} (l : List α) (m : List β) : l.zip m = (l.take m.length).zip m := by
  rw [zip_cut m.length l m]; simp
theorem zip_keys {α β : Type} : ∀ {l : List α} {m : List β}, l.length = m.length → (l.zip m).map (·.1) = l
  | [], [], _ => rfl
  | a :: l, b :: m, h => by simp at h; simp [zip_keys h]
theorem zip_app {α β : Type} {l : List α} {m x : List β} (h : m.length ≤ l.length) : l.zip (m ++ x) = l.zip m ++ (l.drop m.length).zip x := by
  rw [zip_cut m.length l (m ++ x), zip_take l m]; simp
theorem fm_congr {α β : Type} {f g : α → Option β} : ∀ {l : List α}, (∀ x ∈ l, f x = g x) → l.filterMap f = l.filterMap g
  | [], _ => rfl
  | a :: l, h => by rw [List.filterMap_cons, List.filterMap_cons, h a (.head _), fm_congr fun x hx => h x (.tail _ hx)]
theorem filterMap_zip {β : Type} : ∀ {P : List Str} {ws : List β}, P.Nodup → P.length = ws.length → (P.filterMap fun n => ((P.zip ws).lookup n).map fun x => (n, x)) = P.zip ws
  | [], [], _, _ => rfl
  | p :: P, w :: ws, hn, hl => by
    rw [List.nodup_cons] at hn
    simp at hl
    rw [List.zip_cons_cons, List.filterMap_cons, List.lookup_cons, beq_self_eq_true]
    simp only [Option.map_some]
    congr 1
    rw [← filterMap_zip hn.2 hl]
    apply fm_congr
    intro x hx
    have hne : (x == p) = false := beq_eq_false_iff_ne.mpr fun e => hn.1 (e ▸ hx)
    rw [List.lookup_cons, hne, filterMap_zip hn.2 hl]
noncomputable def addSlot {β : Type} (slots : List (Str × β)) (x : Str × β) : List (Str × β) := if (slots.lookup x.1).isNone then slots ++ [x] else slots
theorem fold_have {β : Type} : ∀ (l slots : List (Str × β)), (∀ x ∈ l, x.1 ∈ slots.map (·.1)) → l.foldl addSlot slots = slots
  | [], slots, _ => rfl
  | x :: l, slots, h => by
    have h1 := (look_keys x.1 slots).mpr (h x (.head _))
    rw [List.foldl_cons]
    have : addSlot slots x = slots := by
      unfold addSlot
      rw [if_neg]
      rw [Option.isNone_iff_eq_none]
      intro e; rw [e] at h1; cases h1
    rw [this]
    exact fold_have l slots fun y hy => h y (.tail _ hy)
theorem fold_new {β : Type} : ∀ (l slots : List (Str × β)), (l.map (·.1)).Nodup → (∀ x ∈ l, x.1 ∉ slots.map (·.1)) → l.foldl addSlot slots = slots ++ l
  | [], slots, _, _ => by simp
  | x :: l, slots, hn, h => by
    rw [List.map_cons, List.nodup_cons] at hn
    have h1 : slots.lookup x.1 = none := by
      cases e : slots.lookup x.1 with
      | none => rfl
      | some b => exact absurd ((look_keys x.1 slots).mp (by rw [e]; rfl)) (h x (.head _))
    rw [List.foldl_cons]
    have : addSlot slots x = slots ++ [x] := by unfold addSlot; rw [h1]; rfl
    rw [this, fold_new l _ hn.2 fun y hy hm => ?_]
    · simp
    · rw [List.map_append, List.mem_append] at hm
      rcases hm with hm | hm
      · exact h y (.tail _ hy) hm
      · simp at hm
        exact hn.1 (hm ▸ List.mem_map_of_mem hy)
theorem slots_all {P : List Str} {vals dv : List Value} {k : Nat} (hn : P.Nodup) (hl : P.length = vals.length + k) (hk : k ≤ dv.length) :
    (((P.drop (P.length - (dv.drop (dv.length - P.length)).length)).zip (dv.drop (dv.length - P.length))).foldl addSlot (P.zip vals)) = P.zip (vals ++ dv.drop (dv.length - k)) ∧
    (P.take (P.length - (dv.drop (dv.length - P.length)).length)).filter (fun n => ((P.zip vals).lookup n).isNone) = [] := by
  have keys : (P.zip vals).map (·.1) = P.take vals.length := by rw [zip_take, zip_keys]; simp; omega
  have sub : ∀ n, n ∈ P.take vals.length → ((P.zip vals).lookup n).isSome = true := fun n hn => (look_keys n _).mpr (by rw [keys]; exact hn)
  have hD : (dv.drop (dv.length - P.length)).length = dv.length - (dv.length - P.length) := List.length_drop
  generalize hfd : P.length - (dv.drop (dv.length - P.length)).length = fd
  have hfd' : fd ≤ vals.length := by omega
  constructor
  · have a1 : (((P.drop fd).take (vals.length - fd)).zip ((dv.drop (dv.length - P.length)).take (vals.length - fd))).foldl addSlot (P.zip vals) = P.zip vals := by
      refine fold_have _ _ fun x hx => ?_
      rw [keys]
      have h2 := List.mem_map_of_mem (f := (·.1)) hx
      rw [zip_keys (by simp; omega)] at h2
      have : (P.drop fd).take (vals.length - fd) = (P.take vals.length).drop fd := by rw [List.drop_take]
      rw [this] at h2
      exact List.mem_of_mem_drop h2
    have kk : ((P.drop (fd + (vals.length - fd))).zip (dv.drop (dv.length - P.length + (vals.length - fd)))).map (·.1) = P.drop (fd + (vals.length - fd)) := by
      apply zip_keys; simp; omega
    have a2 : (((P.drop fd).drop (vals.length - fd)).zip ((dv.drop (dv.length - P.length)).drop (vals.length - fd))).foldl addSlot (P.zip vals) = P.zip vals ++ (P.drop vals.length).zip (dv.drop (dv.length - k)) := by
      rw [List.drop_drop, List.drop_drop]
      rw [fold_new]
      · rw [show fd + (vals.length - fd) = vals.length by omega, show dv.length - P.length + (vals.length - fd) = dv.length - k by omega]
      · rw [kk]; exact (List.drop_sublist _ _).nodup hn
      · intro x hx hm
        rw [keys] at hm
        have h1 := List.mem_map_of_mem (f := (·.1)) hx
        rw [kk, show fd + (vals.length - fd) = vals.length by omega] at h1
        have : P = P.take vals.length ++ P.drop vals.length := (List.take_append_drop _ _).symm
        rw [this] at hn
        exact (List.nodup_append.mp hn).2.2 _ hm _ h1 rfl
    rw [zip_cut (vals.length - fd) (P.drop fd), List.foldl_append, a1, a2, zip_app (by omega)]
  · rw [List.filter_eq_nil_iff]
    intro n hn'
    have : n ∈ P.take vals.length := by
      have : P.take fd = (P.take vals.length).take fd := by rw [List.take_take, Nat.min_eq_left hfd']
      rw [this] at hn'
      exact List.mem_of_mem_take hn'
    have := sub n this
    rw [Option.isNone_iff_eq_none]
    intro e; rw [e] at this; cases this
theorem binds_pos {s : Shared} {fd : FuncData} {vals dv : List Value} {k : Nat} (h1 : fd.params.posonlyargs = []) (h2 : fd.params.vararg = none) (h3 : fd.params.kwonlyargs = []) (h4 : fd.params.kwarg = none)
    (hn : (fd.params.args.map (·.arg)).Nodup) (hl : (fd.params.args.map (·.arg)).length = vals.length + k) (hk : k ≤ dv.length)
    (hd : (fd.defaults = .none ∧ dv = []) ∨ ∃ t o n items, fd.defaults = .ref t ∧ s.heap.get? t = some o ∧ o.data = .seq items n ∧ dv = items.toList) :
    BindsTo s fd ⟨vals, []⟩ ((fd.params.args.map (·.arg)).zip (vals ++ dv.drop (dv.length - k))) := by
  intro M A E Q hQ
  obtain ⟨s1, s2⟩ := slots_all hn hl hk
  generalize hP : fd.params.args.map (·.arg) = P at *
  have seqd : ∀ {Q' : Option (Array Value) → Shared → Prop}, (∀ r : Option (Array Value), (r.getD #[]).toList = dv → Q' r s) → wpAny M A (seqItems? fd.defaults) Q' E s := by
    intro Q' h
    rcases hd with ⟨e1, e2⟩ | ⟨t, o, n, items, e1, e2, e3, e4⟩
    · rw [e1]; exact wpAny_pure (h none (by rw [e2]; rfl))
    · rw [e1]; exact wpAny_seqItems e2 e3 (h (some items) e4.symm)
  unfold bindArgs
  dsimp only
  rw [h1, h2, h3, h4, hP]
  simp only [List.map_nil, List.nil_append, List.append_nil, List.forIn_nil]
  refine wpAny_bind (wpAny_pure (wpAny_bind (seqd fun r hr => ?_)))
  dsimp only
  rw [hr, if_neg (by simp; omega), s2]
  rw [if_neg (by simp)]
  rw [forIn_yield (g := fun x sl => addSlot sl x) _ _ (fun x _ b => ?_)]
  · rw [show (List.foldl (fun b x => addSlot b x) (P.zip vals) ((List.drop (P.length - (List.drop (dv.length - P.length) dv).length) P).zip (List.drop (dv.length - P.length) dv))) = _ from s1]
    refine wpAny_bind (wpAny_pure (wpAny_bind (wpAny_pure ?_)))
    dsimp only
    rw [if_neg (by simp)]
    refine wpAny_pure ?_
    rw [filterMap_zip hn (by simp; omega)]
    exact hQ
  · unfold addSlot
    split <;> rfl
end Mine
end

section
/-! one call of a def -/
set_option maxRecDepth 100000
namespace Mine
open PySem PySem.W PySem.W.X PySem.Calls PyProof.Rows PySem.Spec

/-! the parts of a def -/
theorem parNames_eq : ∀ l : List Arg, parNames l = l.map (·.arg)
  | [] => rfl
  | a :: r => by show a.arg :: parNames r = _; rw [parNames_eq r]; rfl
theorem mem_iff {x : Str} : ∀ {l : List Str}, mem x l = true ↔ x ∈ l
  | [] => by simp [mem]
  | y :: l => by
    unfold mem
    cases h : seq x y with
    | true => simp [seq_iff.mp h]
    | false => simp [seq_false h, mem_iff (l := l)]
theorem nodupB_iff : ∀ {l : List Str}, nodupB l = true → l.Nodup
  | [], _ => .nil
  | x :: l, h => by
    unfold nodupB at h
    split at h
    · cases h
    · rename_i q
      exact List.nodup_cons.mpr ⟨fun hm => (by rw [mem_iff.mpr hm] at q; cases q), nodupB_iff h⟩
theorem litV_rel {v : Value} {a : AV} (as : As) (e : litV v = some a) : VR as a v := by
  unfold litV at e
  split at e <;> first | (cases e; done) | skip
  · cases e; rfl
  · cases e; rfl
  · cases e; exact ⟨_, rfl⟩
  · cases e; exact ⟨_, rfl⟩
theorem litL_rel (as : As) : ∀ {l : List Value} {m : List AV}, litL l = some m → All2 (VR as) m l
  | [], m, e => by cases e; exact .nil
  | v :: l, m, e => by
    unfold litL at e
    split at e
    · rename_i a ha
      split at e
      · rename_i r hr
        cases e
        exact .cons (litV_rel as ha) (litL_rel as hr)
      · cases e
    · cases e
theorem All2.drop {α β : Type} {R : α → β → Prop} : ∀ (n : Nat) {l : List α} {m : List β}, All2 R l m → All2 R (l.drop n) (m.drop n)
  | 0, _, _, x => x
  | n + 1, _, _, .nil => .nil
  | n + 1, _, _, .cons _ x => All2.drop n x
theorem fill_split : ∀ {P : List Str} {dfl vs ws : List AV}, fill P dfl vs = some ws → ∃ k, P.length = vs.length + k ∧ k ≤ dfl.length ∧ ws = vs ++ dfl.drop (dfl.length - k)
  | [], dfl, [], ws, e => by cases e; exact ⟨0, rfl, Nat.zero_le _, by simp⟩
  | [], dfl, _ :: _, ws, e => by cases e
  | p :: P, dfl, [], ws, e => by
    unfold fill at e
    split at e
    · rename_i h
      cases e
      exact ⟨P.length + 1, by simp, Nat.le_of_ble_eq_true h, by simp⟩
    · cases e
  | p :: P, dfl, a :: vs, ws, e => by
    unfold fill at e
    split at e
    · rename_i r hr
      cases e
      obtain ⟨k, h1, h2, rfl⟩ := fill_split hr
      exact ⟨k, by simp; omega, h2, rfl⟩
    · cases e
theorem cellsFrom_keys : ∀ (names : List (Str × NameKind)) (n : Nat) (acc : List (Str × Addr)), (cellsFrom n names acc).map (·.1) = cellNames names (acc.map (·.1))
  | [], _, _ => rfl
  | (x, k) :: r, n, acc => by
    unfold cellsFrom
    split
    · rename_i h
      have := beq_iff_eq.mp h
      subst this
      exact cellsFrom_keys r (n + 1) ((x, n) :: acc)
    · rename_i h
      have hk : cellNames ((x, k) :: r) (acc.map (·.1)) = cellNames r (acc.map (·.1)) := by
        cases k <;> first | rfl | exact absurd rfl h
      rw [hk]
      exact cellsFrom_keys r n acc
theorem cellsFrom_apart : ∀ (names : List (Str × NameKind)) (n : Nat) (acc : List (Str × Addr)), acc.Pairwise (fun x y => x.2 ≠ y.2) → (∀ p ∈ acc, p.2 < n) → (cellsFrom n names acc).Pairwise (fun x y => x.2 ≠ y.2)
  | [], _, _, h, _ => h
  | (x, k) :: r, n, acc, h, hl => by
    unfold cellsFrom
    split
    · refine cellsFrom_apart r (n + 1) _ (List.pairwise_cons.mpr ⟨fun p hp => Nat.ne_of_gt (hl p hp), h⟩) fun p hp => ?_
      rcases List.mem_cons.mp hp with rfl | hp
      · exact Nat.lt_succ_self _
      · exact Nat.lt_succ_of_lt (hl p hp)
    · exact cellsFrom_apart r n acc h hl
theorem cellsFrom_above : ∀ (names : List (Str × NameKind)) (n lo : Nat) (acc : List (Str × Addr)), lo ≤ n → (∀ p ∈ acc, lo ≤ p.2) → ∀ p ∈ cellsFrom n names acc, lo ≤ p.2
  | [], _, _, _, _, h => h
  | (x, k) :: r, n, lo, acc, hn, h => by
    unfold cellsFrom
    split
    · refine cellsFrom_above r (n + 1) lo _ (Nat.le_succ_of_le hn) fun p hp => ?_
      rcases List.mem_cons.mp hp with rfl | hp
      · exact hn
      · exact h p hp
    · exact cellsFrom_above r n lo acc hn h
theorem cellNames_mem {x : Str} : ∀ {names : List (Str × NameKind)} {acc : List Str}, x ∈ acc ∨ (x, NameKind.cell) ∈ names → x ∈ cellNames names acc
  | [], acc, h => h.elim id fun h => by cases h
  | (y, k) :: r, acc, h => by
    have other : k ≠ NameKind.cell → x ∈ cellNames r acc := fun hk => cellNames_mem (h.elim .inl fun h => by
      rcases List.mem_cons.mp h with q | h
      · exact absurd (congrArg Prod.snd q).symm hk
      · exact .inr h)
    cases k with
    | cell =>
      show x ∈ cellNames r (y :: acc)
      exact cellNames_mem (h.elim (fun h => .inl (.tail _ h)) fun h => by
        rcases List.mem_cons.mp h with q | h
        · cases q; exact .inl (.head _)
        · exact .inr h)
    | _ => exact other (by intro q; cases q)
theorem cellsOk_mem {names : List (Str × NameKind)} {x : Str} : ∀ {l : List Str}, cellsOk names l = true → x ∈ l → lk names x = some .cell
  | [], _, h => by cases h
  | y :: l, hc, h => by
    unfold cellsOk at hc
    split at hc
    · rename_i q
      rcases List.mem_cons.mp h with rfl | h
      · exact q
      · exact cellsOk_mem hc h
    · cases hc
theorem locOrCell_mem {names : List (Str × NameKind)} {x : Str} : ∀ {l : List Str}, locOrCell names l = true → x ∈ l → lk names x = some .local ∨ lk names x = some .cell
  | [], _, h => by cases h
  | y :: l, hc, h => by
    unfold locOrCell at hc
    split at hc
    · rename_i q
      rcases List.mem_cons.mp h with rfl | h
      · exact .inl q
      · exact locOrCell_mem hc h
    · rename_i q
      rcases List.mem_cons.mp h with rfl | h
      · exact .inr q
      · exact locOrCell_mem hc h
    · cases hc
theorem lookup_mem {β : Type} {x : Str} {b : β} : ∀ {l : List (Str × β)}, l.lookup x = some b → (x, b) ∈ l
  | (y, c) :: l, h => by
    rw [List.lookup_cons] at h
    cases q : x == y with
    | true => rw [q] at h; cases h; rw [beq_iff_eq.mp q]; exact .head _
    | false => rw [q] at h; exact .tail _ (lookup_mem h)

/-! what the parameters are bound to -/
theorem bindL_at {kindOf : Str → Option NameKind} {x : Str} (hx : kindOf x = some .local) : ∀ {l : List (Str × Value)} (m : Str → Option Value), (l.map (·.1)).Nodup → bindL kindOf l m x = match l.lookup x with | some v => some v | none => m x
  | [], m, _ => rfl
  | (n, v) :: r, m, hn => by
    rw [List.map_cons, List.nodup_cons] at hn
    unfold bindL
    rw [bindL_at hx _ hn.2, List.lookup_cons]
    cases q : x == n with
    | true =>
      have := beq_iff_eq.mp q
      subst this
      have h1 : r.lookup x = none := by
        cases e : r.lookup x with
        | none => rfl
        | some b => exact absurd (List.mem_map_of_mem (f := (·.1)) (lookup_mem e)) hn.1
      rw [h1, if_pos hx]
      simp
    | false =>
      have hne : x ≠ n := beq_eq_false_iff_ne.mp q
      cases r.lookup x with
      | some b => rfl
      | none =>
        dsimp only
        split
        · simp [hne]
        · rfl
theorem bindC_at {kindOf : Str → Option NameKind} {x : Str} (hx : kindOf x ≠ some .local) : ∀ {l : List (Str × Value)} (m : Str → Option Value), (l.map (·.1)).Nodup → bindC kindOf l m x = match l.lookup x with | some v => some v | none => m x
  | [], m, _ => rfl
  | (n, v) :: r, m, hn => by
    rw [List.map_cons, List.nodup_cons] at hn
    unfold bindC
    rw [bindC_at hx _ hn.2, List.lookup_cons]
    cases q : x == n with
    | true =>
      have := beq_iff_eq.mp q
      subst this
      have h1 : r.lookup x = none := by
        cases e : r.lookup x with
        | none => rfl
        | some b => exact absurd (List.mem_map_of_mem (f := (·.1)) (lookup_mem e)) hn.1
      rw [h1, if_neg hx]
      simp
    | false =>
      have hne : x ≠ n := beq_eq_false_iff_ne.mp q
      cases r.lookup x with
      | some b => rfl
      | none =>
        dsimp only
        split
        · rfl
        · simp [hne]
noncomputable def OptVR (as : As) : Option AV → Option Value → Prop
  | none, c => c = none
  | some a, c => ∃ w, c = some w ∧ VR as a w
theorem zip_rel {as : As} (x : Str) : ∀ (P : List Str) {ws : List AV} {vs : List Value}, All2 (VR as) ws vs → OptVR as (lk (P.zip ws) x) ((P.zip vs).lookup x)
  | [], _, _, _ => by simp [OptVR, lk]
  | _ :: _, _, _, .nil => by simp [OptVR, lk]
  | p :: P, _, _, .cons h r => by
    rw [List.zip_cons_cons, List.zip_cons_cons, lk_cons, List.lookup_cons]
    dsimp only
    have : (x == p) = seq p x := by
      rw [seq_beq]
      cases q : seq x p with
      | true => rw [seq_iff.mp q, seq_self]
      | false =>
        cases z : seq p x with
        | true => rw [seq_iff.mp z, seq_self] at q; cases q
        | false => rfl
    rw [this]
    cases seq p x with
    | true => exact ⟨_, rfl, h⟩
    | false => exact zip_rel x P r
theorem bindLoc_at {ns : List (Str × NameKind)} {x : Str} {en : Ent} : ∀ {l : List (Str × AV)}, lk (bindLoc ns l) x = some en → ∃ a, en = .val a ∧ lk ns x = some .local ∧ lk l x = some a
  | [], h => by cases h
  | (y, v) :: r, h => by
    unfold bindLoc at h
    split at h
    · rename_i q
      rw [lk_cons] at h ⊢
      dsimp only at h ⊢
      cases z : seq y x with
      | true => rw [z] at h; cases h; exact ⟨v, rfl, by rw [← seq_iff.mp z]; exact q, rfl⟩
      | false => rw [z] at h; exact bindLoc_at h
    · rename_i q
      obtain ⟨a, h1, h2, h3⟩ := bindLoc_at h
      refine ⟨a, h1, h2, ?_⟩
      rw [lk_cons]
      cases z : seq y x with
      | true => have := seq_iff.mp z; subst this; exact absurd h2 q
      | false => exact h3

section
variable {R : Addr} {z : Nat} {ns : List Int} {Pm : Params} {h₀ h₀' h h' : Heap} {L L' : Addr} {fz news : News'} {σ : St}
theorem SR.move (S : SR R z ns Pm h₀ L fz σ news h) (N : News h₀' L' h' (news ++ fz)) : SR R z ns Pm h₀' L' fz σ news h' := ⟨S.rw, S.zl, N, S.nd, S.ln, S.lt, S.ob⟩
theorem cells_in {cm : Str → Option Value} {b : List (Str × AV)} {g : Heap} {xs : List (Str × Addr)} {cells : News'} (X : CellsAre cm xs cells) : xs.Pairwise (fun x y => x.2 ≠ y.2) → ∀ {ρ : Loc} {σ : St} {news : News'}, SR R z ns Pm g L' fz σ news h →
    News g L' h cells → (∀ p ∈ news ++ fz, ∀ q ∈ cells, p.1 ≠ q.1) → (∀ x ∈ xs, OptVR (adr news) (lk b x.1) (cm x.1)) → σ.n + xs.length ≤ 4000 →
    SR R z ns Pm g L' fz (bindCells (xs.map (·.1)) b ρ σ).2 (news ++ cells) h ∧ (∀ x a, lk (bindCells (xs.map (·.1)) b ρ σ).1 x = some (.val a) → lk ρ x = some (.val a)) ∧
      (∀ x i, lk (bindCells (xs.map (·.1)) b ρ σ).1 x = some (.cell i) → lk ρ x = some (.cell i) ∨ ∃ c, (x, c) ∈ xs ∧ (adr (news ++ cells))[i]? = some c) := by
  induction X with
  | nil =>
    intro _ ρ σ news S _ _ _ _
    rw [List.append_nil]
    exact ⟨S, fun _ _ h => h, fun _ _ h => .inl h⟩
  | @cons x c o xs cells hd hr ih0 =>
    intro hp ρ σ news S N hf hv hl
    rw [List.pairwise_cons] at hp
    have keysC : ∀ {xs : List (Str × Addr)} {cells : News'}, CellsAre cm xs cells → ∀ q ∈ cells, ∃ p ∈ xs, p.2 = q.1 := by
      intro xs cells h
      induction h with
      | nil => intro q hq; cases hq
      | cons _ _ ih =>
        intro q hq
        rcases List.mem_cons.mp hq with rfl | hq
        · exact ⟨_, .head _, rfl⟩
        · obtain ⟨p, hp, e⟩ := ih q hq; exact ⟨p, .tail _ hp, e⟩
    have hro : OR R z Pm (adr news ++ [c]) (.cell (lk b x)) o := by
      refine ⟨_, hd, ?_⟩
      have := hv (x, c) (.head _)
      dsimp only at this
      cases q : lk b x with
      | none => rw [q] at this; exact this
      | some a => rw [q] at this; obtain ⟨w, e1, e2⟩ := this; exact ⟨w, e1, e2.ex ⟨_, rfl⟩⟩
    simp only [List.length_cons] at hl
    have S1 : SR R z ns Pm g L' fz (σ.push (.cell (lk b x))) (news ++ [(c, o)]) h := S.push hro (by omega) (fun p hp => by
      rcases List.mem_cons.mp hp with rfl | hp
      · exact N _ (.head _)
      · exact S.nw p hp) (fun p hp => hf p hp _ (.head _))
    have ex1 : Ex (adr news) (adr (news ++ [(c, o)])) := ⟨_, adr_app ..⟩
    have ih := ih0 hp.2 (ρ := (x, .cell σ.n) :: ρ) S1 (fun p hp => N p (.tail _ hp)) (fun p hp' q hq => by
      simp only [List.mem_append, List.mem_cons, List.not_mem_nil, or_false] at hp'
      rcases hp' with (hp' | hp') | hp'
      · exact hf p (List.mem_append_left _ hp') q (.tail _ hq)
      · subst hp'
        obtain ⟨p', hp1, hp2⟩ := keysC hr q hq
        have := hp.1 p' hp1
        dsimp only at this ⊢
        rw [← hp2]; exact this
      · exact hf p (List.mem_append_right _ hp') q (.tail _ hq)) (fun y hy => by
      have := hv y (.tail _ hy)
      cases q : lk b y.1 with
      | none => rw [q] at this; exact this
      | some a => rw [q] at this; obtain ⟨w, e1, e2⟩ := this; exact ⟨w, e1, e2.ex ex1⟩) (by show σ.n + 1 + xs.length ≤ 4000; omega)
    have eq : news ++ [(c, o)] ++ cells = news ++ (c, o) :: cells := by simp
    rw [eq] at ih
    obtain ⟨i1, i2, i3⟩ := ih
    refine ⟨i1, fun y a hy => ?_, fun y i hy => ?_⟩
    · have := i2 y a hy
      rw [lk_cons] at this
      dsimp only at this
      cases q : seq x y with
      | true => rw [q] at this; cases this
      | false => rw [q] at this; exact this
    · rcases i3 y i hy with h | ⟨c', h1, h2⟩
      · rw [lk_cons] at h
        dsimp only at h
        cases q : seq x y with
        | true =>
          rw [q] at h; cases h
          refine .inr ⟨c, by rw [← seq_iff.mp q]; exact .head _, ?_⟩
          rw [← S.ln]; simp [adr]
        | false => rw [q] at h; exact .inl h
      · exact .inr ⟨c', .tail _ h1, h2⟩
end
end Mine
end

section
/-! one step of a call -/
set_option maxRecDepth 100000
namespace Mine
open PySem PySem.W PySem.W.X PySem.Calls PyProof.Rows PySem.Spec

section
variable {D : Wd} {ih : Ev} {c c' : Cx} {cn : Cn} {d : Nat} {ρ ρ' : Loc} {m m' : Str → Option Value} {fz fz' news news' : News'} {σ : St} {s : Shared} {A A' : Around} {E : Value → Shared → Prop} {h h' : Heap} {a : Addr} {o o' : Obj}

theorem codeAt_rec {T : KT} {cd : Value} {q : Str} (e : codeAt T cd q = true) (H : ∀ a o, T.get a = some o → h.get? a = some o) : h.CodeRec cd q := by
  unfold codeAt at e
  split at e
  · split at e
    · rename_i c o ho
      split at e
      · rename_i vs hd
        split at e
        · rename_i a n t r hv
          refine ⟨_, o, vs, t, rfl, H _ _ ho, hd, ?_⟩
          rw [← Array.getElem?_toList, hv, ← seq_iff.mp e]; rfl
        · cases e
      · cases e
    · cases e
  · cases e

/-- the frame of a def, laid -/
theorem enter_rule {d f : Nat} {fd : FnD} {vs ws : List AV} {ρ' : Loc} {σ σ' : St} {vals : List Value} {A' : Around} {R' : Result → Shared → Prop} (hfd : fnAt D.G.T f = some fd) (hws : fill fd.pars fd.dfl vs = some ws) (hn : Nat.blt σ.n 3900 = true)
    (hbc : bindCells (cellNames fd.names []) (fd.pars.zip ws) (bindLoc fd.names (fd.pars.zip ws)) σ = (ρ', σ')) (H : Here D c cn (d + 1) ρ m fz news σ s.heap) (hv : All2 (VR (adr news)) vs vals) (hA : A'.frames = c.A.frames) (hh : A'.handled = none) (hdep : A'.depth ≤ c.A.depth + 2) (huni : A'.units ≤ c.A.units + 8)
    (body : ∀ (c' : Cx) (m' : Str → Option Value) (n' : News') (h₁ : Heap) (tk : Nat) (P1 : Flow → Shared → Prop) (P2 : Value → Shared → Prop), Own c' → c'.fe.scope.isGenerator = false → c'.fe.scope.isCoroutine = false → c'.fe.globals = mainGlobals → c'.fe.builtins = builtinsNs → Ex (adr news) (adr n') →
      Here D c' ⟨fd.names, true⟩ d ρ' m' fz n' σ' h₁ →
      (∀ ρ2 m2 σ2 n2 fw v h2 t2, Ex (adr n') (adr n2) → Here D c' ⟨fd.names, true⟩ d ρ2 m2 fz n2 σ2 h2 → (fw = .ret v ∨ (fw = .next ∧ v = .none)) → (Here D c cn (d + 1) ρ m fz n2 σ2 h2 → R' (.ok (.ret v)) (up s h2 t2)) → P1 fw (up s h2 t2)) →
      (∀ b m2 σ2 n2 v h2 t2, Ex (adr n') (adr n2) → Fly D c' m2 fz n2 σ2 b v h2 → (∀ n3 h3 t3, adr n3 = adr n2 → Fly D c m fz n3 σ2 b v h3 → R' (.error v) (up s h3 t3)) → P2 v (up s h2 t2)) →
      wpAny D.M c'.A (execs fd.body c'.env) P1 P2 (up s h₁ tk)) : codeAny D.M A' (.call (.ref f) ⟨vals, []⟩) R' s := by
  obtain ⟨fo, fdat, bd, dvv, g1, g2, g3, g4, g5, g6, g7, g8, g9⟩ := fnAt_obj hfd
  obtain ⟨qn, qq, qpar, qbody, qsc, qgl, qclos, qdef, qkd, qdoc, qpm, qann, qcode, qct, qbi⟩ := fdat
  unfold fnOk at g6
  simp only [Bool.and_eq_true, List.isEmpty_iff, Option.isNone_iff_eq_none, Bool.not_eq_true'] at g6
  obtain ⟨⟨⟨⟨⟨⟨⟨⟨⟨⟨⟨⟨⟨⟨⟨⟨k1, k2⟩, k3⟩, k4⟩, k5⟩, k6⟩, k7⟩, k8⟩, k9⟩, k10⟩, k11⟩, k12⟩, k13⟩, k14⟩, k15⟩, k16⟩, k17⟩ := g6
  dsimp only at g3 g4 g7 g9 k1 k2 k3 k4 k5 k6 k7 k8 k9 k10 k11 k12 k13 k14 k15 k16 k17
  obtain rfl := Nat.eq_of_beq_eq_true k6
  obtain rfl := Nat.eq_of_beq_eq_true k7
  subst k5 g3
  have hat := H.kt g1
  obtain ⟨A₀, B⟩ := H.ok.B
  obtain ⟨n, w1, w2, rfl⟩ := fill_split hws
  rw [g7, parNames_eq] at w1
  have hlit := litL_rel (adr news) g5
  have hvl : vals.length = vs.length := hv.length.symm
  have hdl : dvv.length = fd.dfl.length := hlit.length.symm
  have hpn : (qpar.args.map (·.arg)).Nodup := by rw [← parNames_eq]; exact nodupB_iff k13
  have hbind : BindsTo s (fnX qn qq qpar bd qsc [] qdef qkd qdoc qpm qann qcode qct) ⟨vals, []⟩ ((qpar.args.map (·.arg)).zip (vals ++ dvv.drop (dvv.length - n))) := by
    refine binds_pos k1 k2 k3 k4 hpn (by rw [hvl]; exact w1) (by rw [hdl]; exact w2) ?_
    unfold dflAt at g4
    split at g4
    · cases g4; exact .inl ⟨rfl, rfl⟩
    · rename_i t
      split at g4
      · rename_i ot hot
        split at g4
        · rename_i items nn hseq
          cases g4
          exact .inr ⟨t, ot, nn, items, rfl, H.kt hot, hseq, rfl⟩
        · cases g4
      · cases g4
    · cases g4
  have hwv : All2 (VR (adr news)) (vs ++ fd.dfl.drop (fd.dfl.length - n)) (vals ++ dvv.drop (dvv.length - n)) := hv.append (by rw [hdl]; exact hlit.drop _)
  generalize hb : vs ++ fd.dfl.drop (fd.dfl.length - n) = wa at hwv hbc
  generalize hbv : vals ++ dvv.drop (dvv.length - n) = wv at hwv hbind
  have hwl : (qpar.args.map (·.arg)).length = wv.length := by
    rw [← hbv, List.length_append, List.length_drop, w1, hvl]; omega
  have hkeys : ((qpar.args.map (·.arg)).zip wv).map (·.1) = qpar.args.map (·.arg) := zip_keys hwl
  have hnd : ((cellsFrom 0 qsc.names []).map (·.1)).Nodup := by rw [cellsFrom_keys]; exact nodupB_iff k14
  have hroom : A'.depth < recursionLimit := by have := H.ok.dep; show A'.depth < 1000; omega
  refine callX_cells (A₀ := A₀) (A := A') B H.F H.S.nw H.ok.TR.nolimit (by rw [hA]; exact H.ok.hA) H.ok.hf H.ok.hfk hat g2 (codeAt_rec k11 fun a o ho => H.kt ho) hroom hbind (fun n' y hy => ?_) hnd
    (fun g L' h₁ tk cells FG F' N' Y BG st lt => ?_) k10 k9 (isFun_eq k8)
  · have hy' : y.1 ∈ parNames qpar.args := by rw [parNames_eq, ← hkeys]; exact List.mem_map_of_mem hy
    rcases locOrCell_mem k12 hy' with q | q
    · left; rw [← lk_lookup]; exact q
    · right
      rw [← lk_lookup]
      refine ⟨q, (look_keys _ _).mpr ?_⟩
      rw [cellsFrom_keys]
      refine cellNames_mem (.inr ?_)
      rw [lk_lookup] at q
      exact lookup_mem q
  · -- the callee's frame
    let ce : Env := envOfC qq qsc L' f qcode
    let c' : Cx := { A := A'.deeper ce, base := c.base, outer := c.fe :: c.outer, h₀ := g, L := L', env := ce, fe := ce }
    have kd : ∀ y, ce.kindOf y = lk qsc.names y := fun y => (lk_lookup y qsc.names).symm
    have ok' : c'.Ok D ⟨fd.names, true⟩ d := by
      refine ⟨H.ok.X.keeps st, H.ok.H.keeps st, H.ok.TR.keeps st, ⟨_, BG⟩, Around.frames_deeper (by rw [hA]; exact H.ok.hA), rfl, isFun_eq k8, rfl, isFun_eq k8, rfl, rfl, ?_, fun y hy => ?_, fun y hy => ?_, ?_, ?_, fun _ => hh, Nat.le_of_succ_le H.ok.dl, H.ok.seer.keeps st, fun h30 => absurd (Nat.lt_of_lt_of_le (Nat.lt_succ_of_le h30) H.ok.dl) (Nat.lt_irrefl _)⟩
      · rw [kd]; exact k15
      · rw [kd, ← g9]; exact hy
      · rw [kd, ← g9]; exact hy
      · show A'.depth + 1 + 4 * d ≤ 800
        have := H.ok.dep; omega
      · show A'.units + 3 + 20 * d ≤ 9000
        have := H.ok.uni; omega
    have hxs : (cellsFrom (L' + 1) qsc.names []).map (·.1) = cellNames qsc.names [] := cellsFrom_keys _ _ _
    have hap : (cellsFrom (L' + 1) qsc.names []).Pairwise (fun x y => x.2 ≠ y.2) := cellsFrom_apart _ _ _ .nil (fun _ h => by cases h)
    have hab : ∀ p ∈ cellsFrom (L' + 1) qsc.names [], L' + 1 ≤ p.2 := cellsFrom_above _ _ _ _ (Nat.le_refl _) (fun _ h => by cases h)
    have hcell : ∀ y ∈ cellsFrom (L' + 1) qsc.names [], lk qsc.names y.1 = some .cell := fun y hy => cellsOk_mem k16 (by rw [← hxs]; exact List.mem_map_of_mem hy)
    have keysC : ∀ {cm : Str → Option Value} {xs : List (Str × Addr)} {cells : News'}, CellsAre cm xs cells → ∀ q ∈ cells, ∃ p ∈ xs, p.2 = q.1 := by
      intro cm xs cells h
      induction h with
      | nil => intro q hq; cases hq
      | cons _ _ ih =>
        intro q hq
        rcases List.mem_cons.mp hq with rfl | hq
        · exact ⟨_, .head _, rfl⟩
        · obtain ⟨p, hp, e⟩ := ih q hq; exact ⟨p, .tail _ hp, e⟩
    have S0 : SRD D g L' fz σ news h₁ := H.S.move fun p hp => N' p (List.mem_append_right _ hp)
    have NC : News g L' h₁ cells := fun p hp => N' p (List.mem_append_left _ hp)
    obtain ⟨i1, i2, i3⟩ := cells_in (b := (qpar.args.map (·.arg)).zip wa) Y hap (ρ := bindLoc qsc.names ((qpar.args.map (·.arg)).zip wa)) S0 NC (fun p hp q hq => by
        obtain ⟨p', hp1, hp2⟩ := keysC Y q hq
        have h1 := hab p' hp1
        have h2 := lt p hp
        rw [hp2] at h1
        exact Nat.ne_of_lt (Nat.lt_trans h2 (Nat.lt_of_succ_le h1))) (fun y hy => by
        have hk : ce.kindOf y.1 ≠ some .local := by rw [kd, hcell y hy]; decide
        rw [bindC_at hk _ (by rw [hkeys]; exact hpn)]
        have := zip_rel (as := adr news) y.1 (qpar.args.map (·.arg)) hwv
        cases q : lk ((qpar.args.map (·.arg)).zip wa) y.1 with
        | none => rw [q] at this; rw [show List.lookup y.1 ((qpar.args.map (·.arg)).zip wv) = none from this]; rfl
        | some b => rw [q] at this; obtain ⟨w, e1, e2⟩ := this; rw [e1]; exact ⟨w, rfl, e2⟩) (by
        have := blt_lt k17
        have := blt_lt hn
        rw [← List.length_map (f := (·.1)) (as := cellsFrom (L' + 1) qsc.names []), hxs]; omega)
    rw [hxs] at i1 i2 i3
    rw [g7, g9, parNames_eq] at hbc
    rw [hbc] at i1 i2 i3
    dsimp only at i1 i2 i3
    have ex0 : Ex (adr news) (adr (news ++ cells)) := ⟨adr cells, by simp [adr]⟩
    have H' : Here D c' ⟨fd.names, true⟩ d ρ' (bindL ce.kindOf ((qpar.args.map (·.arg)).zip wv) fun _ => none) fz (news ++ cells) σ' h₁ := by
      refine ⟨ok', F', i1, ⟨_, .inl ⟨rfl, rfl⟩, fun y b hy => ?_⟩, fun y i hy => ?_⟩
      · obtain ⟨b', q1, q2, q3⟩ := bindLoc_at (i2 y b hy)
        cases q1
        have hk : ce.kindOf y = some .local := by rw [kd]; exact q2
        refine ⟨hk, ?_⟩
        rw [bindL_at hk _ (by rw [hkeys]; exact hpn)]
        have := zip_rel (as := adr news) y (qpar.args.map (·.arg)) hwv
        rw [q3] at this
        obtain ⟨w, e1, e2⟩ := this
        rw [e1]
        exact ⟨w, rfl, e2.ex ex0⟩
      · rcases i3 y i hy with q | ⟨ca, q1, q2⟩
        · obtain ⟨b', q1, _⟩ := bindLoc_at q
          cases q1
        · refine ⟨by rw [kd]; exact hcell _ q1, ca, ?_, q2⟩
          show (cellsFrom (L' + 1) qsc.names []).lookup y = some ca
          exact lookup_of_mem_nodup (by rw [hxs]; exact nodupB_iff k14) q1
    rw [← g8]
    refine body c' _ _ h₁ tk _ _ ⟨rfl, rfl⟩ k9 k10 rfl rfl ex0 H' (fun ρ2 m2 σ2 n2 fw v h2 t2 ex2 H2 hfw hR => ?_) (fun b m2 σ2 n2 v h2 t2 ex2 fly2 hR => ?_)
    · have fin : LeaveK c.h₀ c.L m g R' v (up s h2 t2) := leaveK_ H2.F H2.S.nw fun F2 N2 => hR ⟨H.ok, F2, H2.S.move N2, H.rho.ex (ex0.trans ex2)⟩
      rcases hfw with rfl | ⟨rfl, rfl⟩
      · exact fin
      · exact fin
    · exact leave_fly (c := c) (c' := c') (s := up s h2 t2) ok' rfl rfl rfl FG H.ok.hf fly2 (fun n3 h3 t3 a3 fly3 => hR n3 h3 t3 a3 fly3)

theorem stepC (O : D.Ok) (S : Snd D ih) : SndC D (step D.G ih) := by
  intro d f vs σ x k e c cn ρ m fz news s vals A' R' H hrz hv hA hh hdep huni hQ hX
  change evC D.G ih d f vs σ x k = true at e
  unfold evC at e
  split at e
  · cases e
  · rename_i d
    split at e
    · rename_i fd hfd
      split at e
      · rename_i ws hws
        split at e
        · rename_i hn
          dsimp only at e
          generalize hbc : bindCells (cellNames fd.names []) (fd.pars.zip ws) (bindLoc fd.names (fd.pars.zip ws)) σ = rs at e
          obtain ⟨ρ', σ'⟩ := rs
          dsimp only at e
          refine enter_rule hfd hws hn hbc H hv hA hh hdep huni (fun c' m' n' h₁ tk P1 P2 ow _ _ _ _ ex0 H' hP1 hP2 => ?_)
          refine S.Ss (c := c') (s := up s h₁ tk) e ow H' (fun fl ρ2 m2 σ2 n2 fw h2 t2 ex2 H2 hf2 e2 => ?_) (fun b ρ2 m2 σ2 n2 v h2 t2 ex2 r2 fly2 e2 => ?_)
          · cases fl with
            | next => obtain rfl : fw = .next := hf2; exact hP1 ρ2 m2 σ2 n2 .next .none h2 t2 ex2 H2 (.inr ⟨rfl, rfl⟩) fun Hc => hQ .none σ2 n2 .none h2 t2 (ex0.trans ex2) Hc rfl e2
            | cont => cases e2
            | brk => cases e2
            | ret w => obtain ⟨v, rfl, hv2⟩ := hf2; exact hP1 ρ2 m2 σ2 n2 _ v h2 t2 ex2 H2 (.inl rfl) fun Hc => hQ w σ2 n2 v h2 t2 (ex0.trans ex2) Hc hv2 e2
          · exact hP2 b m2 σ2 n2 v h2 t2 ex2 fly2 fun n3 h3 t3 a3 fly3 => hX b σ2 n3 v h3 t3 (by rw [a3]; exact ex0.trans ex2) fly3 e2
        · cases e
      · cases e
    · cases e
end
end Mine
end

section
/-! the evaluator is sound -/
set_option maxRecDepth 100000
namespace Mine
open PySem PySem.W PySem.W.X PySem.Calls PyProof.Rows PySem.Spec

theorem snd_le {D : Wd} (O : D.Ok) (I : IsnOk D) (T : TakeOk D) : ∀ n j, j ≤ n → Snd D (ev D.G j)
  | 0, j, h => by
    obtain rfl : j = 0 := Nat.le_zero.mp h
    exact snd0 D
  | n + 1, j, h => by
    have ih := snd_le O I T n
    rcases Nat.lt_or_eq_of_le h with h | rfl
    · exact ih j (Nat.le_of_lt_succ h)
    · have Sn := ih n (Nat.le_refl _)
      exact ⟨stepE O I T ih, stepEs Sn, stepT Sn, stepS O ih, stepSs Sn, stepC O Sn⟩
theorem snd_all {D : Wd} (O : D.Ok) (I : IsnOk D) (T : TakeOk D) (n : Nat) : Snd D (ev D.G n) := snd_le O I T n n (Nat.le_refl _)
end Mine
end

section
/-! the law's draw -/
set_option maxRecDepth 100000
namespace Mine
open PySem PySem.W PySem.W.X PySem.Calls PyProof.Rows PySem.Spec

theorem isLoc_eq {names : List (Str × NameKind)} {x : Str} (h : isLoc names x = true) : lk names x = some .local := by
  unfold isLoc at h; split at h
  · assumption
  · cases h
theorem isGlb_eq {names : List (Str × NameKind)} {x : Str} (h : isGlb names x = true) : lk names x = some .globalImplicit := by
  unfold isGlb at h; split at h
  · assumption
  · cases h
theorem noCells_names : ∀ {l : List (Str × NameKind)} {acc : List Str}, noCells l = true → cellNames l acc = acc
  | [], _, _ => rfl
  | (x, k) :: r, acc, h => by
    unfold noCells at h
    cases k <;> first | (cases h; done) | exact noCells_names (l := r) h
theorem draws_at {k : KE} {σ : St} : ∀ {M : Nat}, draws k σ M = true → ∀ r, r < M → k (.int (Int.ofNat r)) σ = true
  | 0, _, r, h => absurd h (Nat.not_lt_zero _)
  | M + 1, e, r, h => by
    unfold draws at e
    split at e
    · rename_i q
      rcases Nat.lt_or_eq_of_le (Nat.le_of_lt_succ h) with h | rfl
      · exact draws_at e r h
      · exact q
    · cases e

section
variable {D : Wd} {c : Cx} {cn : Cn} {d : Nat} {ρ : Loc} {m : Str → Option Value} {fz news : News'} {σ : St} {s : Shared} {A : Around} {E : Value → Shared → Prop}
theorem loc_val {x : Str} {b : AV} {pos : Pos} {Q : Value → Shared → Prop} (hl : lk ρ x = some (.val b)) (H : Here D c cn d ρ m fz news σ s.heap) (h : ∀ v, VR (adr news) b v → Q v s) : wpAny D.M A (eval (.Name x pos) c.env) Q E s := by
  obtain ⟨⟨ml, l, r⟩, _⟩ := H.rho
  obtain ⟨q1, v, q2, q3⟩ := r x b hl
  exact wpAny_Name (wpAny_loadName_local H.ok.hk q1 (l.ns H.F H.S.nw) q2 (h v q3)) (H.dbg q1)
theorem glob_bi {x : Str} {v : Value} {pos : Pos} {Q : Value → Shared → Prop} (hx : lk cn.names x = some .globalImplicit) (g1 : nsIn D.K mainGlobals x = some none) (g2 : bootBuiltins x = some v) (g3 : x ≠ "__name__") (H : Here D c cn d ρ m fz news σ s.heap) (h : Q v s) : wpAny D.M A (eval (.Name x pos) c.env) Q E s := by
  have q1 := H.ok.nmg x hx
  refine Name_function_global H.ok.hk q1 ?_ (H.dbg q1)
  have hgl : s.heap.Ns c.env.globals D.mg := by rw [H.ok.hg]; exact H.ok.TR.g.keeps H.F.keep
  exact loadGlobal_builtin hgl (mg_none_of H.ok.X H.ok.TR.g g1) (by rw [H.ok.hb]; exact H.ok.TR.b.keeps H.F.keep) ((H.ok.TR.builtins x g3).trans g2) h
theorem storeL {x : Str} {b : AV} {v : Value} {Q : Unit → Shared → Prop} (hk : lk cn.names x = some .local) (ow : Own c) (H : Here D c cn d ρ m fz news σ s.heap) (hv : VR (adr news) b v)
    (hQ : ∀ m' h' t, Here D c cn d (put ρ x (.val b)) m' fz news σ h' → Q () (up s h' t)) : wpAny D.M A (storeName c.env x v) Q E s := by
  have hx := H.ok.nml x hk
  have hp : (c.env.scope.kind == .class || (c.env.scope.kind == .module && c.env.locals != c.env.globals)) = false := by rw [H.ok.hk]; rfl
  refine wpAny_storeName_local hx (show s.heap.Ns c.env.locals m by rw [ow.2]; exact H.F.ns) (fun h' hns hs => ?_) hp
  rw [ow.2] at hns hs
  refine hQ _ h' (s.toks + 1) ⟨H.ok, H.F.set hns hs, ⟨H.S.rw, H.S.zl, H.S.nw.set hs, H.S.nd, H.S.ln, H.S.lt, H.S.ob⟩, ⟨_, .inl ⟨ow.2, rfl⟩, fun y b' hy => ?_⟩, fun y i hy => ?_⟩
  · rw [lk_put] at hy
    by_cases q : y = x
    · subst q
      rw [if_pos rfl] at hy; cases hy
      exact ⟨hx, v, by rw [if_pos rfl], hv⟩
    · rw [if_neg q] at hy
      obtain ⟨ml, l, r⟩ := H.rho.loc
      have := ow.loc H.S.nw l
      subst this
      obtain ⟨r1, u, r2, r3⟩ := r y b' hy
      exact ⟨r1, u, by rw [if_neg q]; exact r2, r3⟩
  · rw [lk_put] at hy
    by_cases q : y = x
    · rw [if_pos q] at hy; cases hy
    · rw [if_neg q] at hy; exact H.rho.cel y i hy

/-- a built-in of one argument, called -/
theorem call1 {f : Str} {id : String} {fp pos : Pos} {ex : Expr} {Q : Value → Shared → Prop} (hx : lk cn.names f = some .globalImplicit) (g1 : nsIn D.K mainGlobals f = some none) (g2 : bootBuiltins f = some (.builtin id)) (g3 : f ≠ "__name__") (H : Here D c cn d ρ m fz news σ s.heap)
    (hs : isStar ex = false) (h : wpAny D.M c.A (eval ex c.env) (fun v s₁ => wpAny D.M c.A (call (.builtin id) [v]) Q E s₁) E s) : wpAny D.M c.A (eval (.Call (.Name f fp) [ex] [] pos) c.env) Q E s := by
  refine Call_ (glob_bi hx g1 g2 g3 H ?_)
  have hns : noStar [ex] = true := by unfold noStar; rw [hs]; rfl
  refine callWith_of (P := fun h => Kept D.M (.builtin id) h) (by rw [noStar_plain hns]; rfl) (fun _ h => h) ?_
  exact evalArgs_es hns (args_cons (wpAny_mono h (fun v s₁ h₁ => args_nil ⟨kept_builtin _, h₁⟩) fun _ _ e => e) (spl_cons hs))
end
end Mine
end

section
/-! the law's draw, walked -/
set_option maxRecDepth 100000
namespace Mine
open PySem PySem.W PySem.W.X PySem.Calls PyProof.Rows PySem.Spec

theorem abs_boot : bootBuiltins nAbs = some (.builtin "abs") := by decide +kernel
theorem len_boot : bootBuiltins nLen = some (.builtin "len") := by decide +kernel
theorem abs_nm : nAbs ≠ "__name__" := by decide +kernel
theorem len_nm : nLen ≠ "__name__" := by decide +kernel

section
variable {D : Wd} {c : Cx} {cn : Cn} {d : Nat} {ρ : Loc} {m : Str → Option Value} {fz news : News'} {σ : St} {s : Shared} {A : Around} {E : Value → Shared → Prop}

/-- the row's length -/
theorem len_row {f x : Str} {fp xp pos : Pos} {R : Addr} {vs : List Value} {n : Nat} {Q : Value → Shared → Prop} (hx : lk cn.names f = some .globalImplicit) (hf : seq f nLen = true) (hlen : nsIn D.K mainGlobals nLen = some none) (H : Here D c cn d ρ m fz news σ s.heap)
    (hl : lk ρ x = some (.val (.old R))) (hR : (R, ({ cls := .type "list", data := .seq (List.toArray vs) n } : Obj)) ∈ fz) (hz : vs.length ≤ 40) (h : ∀ t k, Q (.int (vs.length : Int) t) (up s s.heap k)) :
    wpAny D.M c.A (eval (.Call (.Name f fp) [.Name x xp] [] pos) c.env) Q E s := by
  have := seq_iff.mp hf
  subst this
  refine call1 hx hlen len_boot len_nm H rfl (loc_val hl H (fun v hv => ?_))
  obtain rfl : v = .ref R := hv
  have hL : s.heap.IsList R vs.toArray := ⟨_, (H.S.nw _ (List.mem_append_right _ hR)).1, rfl, n, rfl⟩
  refine call_len_list hL (by rw [List.size_toArray]; omega) ?_
  rw [List.size_toArray]
  exact h _ _

theorem room_here (H : Here D c cn d ρ m fz news σ s.heap) (ht : D.prog.given.tree = none) (g1 : c.fe.scope.isGenerator = false) (g2 : c.fe.scope.isCoroutine = false) (g3 : c.fe.globals = mainGlobals) (g4 : c.fe.builtins = builtinsNs) : PylongRoom D.M c.A s :=
  PylongRoom.of (H.ok.TR.nolimit.keeps H.F.keep) (by have := H.ok.dep; show c.A.depth + 100 < 1000; omega) (SeerAt.of (H.ok.seer.keeps H.F.keep) ht H.ok.hA g1 g2 g4 g3)

theorem take_ok (ht : D.prog.given.tree = none) (hab : nsIn D.K mainGlobals nAbs = some none) (hlen : nsIn D.K mainGlobals nLen = some none) {fd : FnD} (hfd : fnAt D.G.T D.G.take = some fd) (hs : DrawShape fd) : TakeOk D := by
  intro c cn d ρ m fz news σ s vs vals k Q E e H hrz hv hQ
  obtain ⟨s2, m1, r5, a4, names, kz, pz, rfl, hs⟩ := hs
  · simp only [Bool.and_eq_true, Bool.not_eq_true'] at hs
    obtain ⟨⟨⟨⟨⟨⟨⟨⟨⟨⟨⟨⟨n1, n2⟩, n3⟩, n4⟩, n5⟩, n6⟩, p1⟩, p2⟩, p3⟩, p4⟩, b1⟩, b2⟩, nc⟩ := hs
    have hps := isLoc_eq p1
    have hpm := isLoc_eq p2
    have hr := isLoc_eq p3
    have ha := isLoc_eq p4
    have habs := isGlb_eq b1
    have hln := isGlb_eq b2
    unfold takeV at e
    split at e
    · rename_i i mm
      split at e
      · rename_i n hg
        split at e
        · rename_i hb
          simp only [Bool.and_eq_true, decide_eq_true_eq] at hb
          obtain ⟨⟨⟨hm2, hm6⟩, hn20⟩, hn39⟩ := hb
          have hn20' := blt_lt hn20
          have fin := draws_at e
          refine wpAny_call ?_
          have hcn : cellNames names [] = [] := noCells_names nc
          have hbl : bindLoc names [(s2, AV.own i), (m1, AV.int mm)] = [(s2, .val (.own i)), (m1, .val (.int mm))] := by
            unfold bindLoc
            rw [hps]
            unfold bindLoc
            rw [hpm]
            rfl
          refine enter_rule (vs := [.own i, .int mm]) (ws := [.own i, .int mm]) (ρ' := [(s2, .val (.own i)), (m1, .val (.int mm))]) (σ' := σ) hfd rfl hn39 (by
            dsimp only
            rw [hcn]
            show (bindLoc names [(s2, AV.own i), (m1, AV.int mm)], σ) = _
            rw [hbl]) H hv rfl (H.ok.hh hrz) (Nat.le_add_right _ _) (Nat.le_add_right _ _) (fun c' m' n' h₁ tk P1 P2 ow g1 g2 g3 g4 ex0 H' hP1 hP2 => ?_)
          have hh : c'.A.handled = none := H'.ok.hh rfl
          have look : ∀ x b, lk ([(s2, .val (.own i)), (m1, .val (.int mm))] : Loc) x = some b → True := fun _ _ _ => trivial
          have l1s : lk ([(s2, .val (.own i)), (m1, .val (.int mm))] : Loc) s2 = some (.val (.own i)) := by rw [lk_cons, seq_self]; rfl
          have l1m : lk ([(s2, .val (.own i)), (m1, .val (.int mm))] : Loc) m1 = some (.val (.int mm)) := by rw [lk_cons, n2, lk_cons, seq_self]; rfl
          -- the first row
          refine wpAny_execs_cons (Assign_Tuple (loc_val (s := up s h₁ tk) l1s H' (fun v hv1 => ?_)) rfl rfl)
          obtain ⟨sa, ob, rfl, e1, e2, kk, tt, ep, hk, rfl⟩ := H'.S.atV hg hv1
          refine kun_list (s := up s h₁ tk) H'.F H'.S.nw ⟨_, e2, rfl, ep, rfl⟩ hh rfl rfl (fun h2 F2 N2 => ?_)
          have H2 := H'.grow F2 N2
          show wpAny D.M c'.A (assignInOrder [assign (.Name r5 _) c'.env, assign (.Name a4 _) c'.env] [.ref D.R, .int (kk : Int) tt]) _ _ (up s h2 tk)
          unfold assignInOrder
          refine wpAny_bind (wpAny_holding (PyProof.Rows.assign_Name (storeL (s := up s h2 tk) (b := .old D.R) hr ow H2 rfl (fun m3 h3 t3 H3 => ?_))))
          unfold assignInOrder
          refine wpAny_bind (wpAny_holding (PyProof.Rows.assign_Name (storeL (s := up s h3 t3) (b := .int (kk : Int)) ha ow H3 ⟨_, rfl⟩ (fun m4 h4 t4 H4 => ?_))))
          unfold assignInOrder
          refine wpAny_pure ?_
          have ne1 : ∀ {x y : Str}, seq x y = false → y ≠ x := fun h e => seq_false h e.symm
          have l4a : lk (put (put ([(s2, .val (.own i)), (m1, .val (.int mm))] : Loc) r5 (.val (.old D.R))) a4 (.val (.int (kk : Int)))) a4 = some (.val (.int (kk : Int))) := by rw [lk_put, if_pos rfl]
          have l4r : lk (put (put ([(s2, .val (.own i)), (m1, .val (.int mm))] : Loc) r5 (.val (.old D.R))) a4 (.val (.int (kk : Int)))) r5 = some (.val (.old D.R)) := by rw [lk_put, if_neg (seq_false n1), lk_put, if_pos rfl]
          have l4s : lk (put (put ([(s2, .val (.own i)), (m1, .val (.int mm))] : Loc) r5 (.val (.old D.R))) a4 (.val (.int (kk : Int)))) s2 = some (.val (.own i)) := by rw [lk_put, if_neg (ne1 n5), lk_put, if_neg (ne1 n3)]; exact l1s
          have l4m : lk (put (put ([(s2, .val (.own i)), (m1, .val (.int mm))] : Loc) r5 (.val (.old D.R))) a4 (.val (.int (kk : Int)))) m1 = some (.val (.int mm)) := by rw [lk_put, if_neg (ne1 n6), lk_put, if_neg (ne1 n4)]; exact l1m
          generalize put (put ([(s2, .val (.own i)), (m1, .val (.int mm))] : Loc) r5 (.val (.old D.R))) a4 (.val (.int (kk : Int))) = ρ4 at *
          -- the second row
          refine wpAny_execs_cons (wpAny_Assign_Subscript (wpAny_BinOp (loc_val (s := up s h4 t4) l4a H4 (fun v hv4 => ?_))) rfl)
          obtain ⟨t5, rfl⟩ := hv4
          refine wpAny_Constant_int ?_
          refine PyProof.Rows.add_int ?_
          refine loc_val (s := up s h4 (t4 + 1 + 1)) l4s H4 (fun v hv4 => ?_)
          refine wpAny_Constant_int ?_
          obtain ⟨sa', ob4, rfl, f1, f2, f3⟩ := H4.S.atV hg hv4
          have : some (sa', ob4) = some (sa, ({ cls := .type "list", data := .seq #[.ref D.R, .int (kk : Int) tt] ep } : Obj)) := by rw [← f1, ← e1]
          cases this
          refine ki_set (s := up s h4 (t4 + 1 + 1 + 1)) (its := #[.ref D.R, .int (kk : Int) tt]) (n := ep) (q := [.ref D.R, .int ((kk : Int) + 1) (t4 + 1)]) H4.F H4.S.nw (by decide) (by decide) rfl (H4.S.upd f1) (fun h6 F6 N6 => ?_)
          have H6 : Here D c' ⟨names, true⟩ d ρ4 m4 fz (n'.set i (sa, _)) (σ.set i (.stt (n + 1))) h6 := H4.set hg f1 (show ORD D (adr n') (.stt (n + 1)) _ from ⟨kk + 1, t4 + 1, ep, by omega, rfl⟩) F6 N6
          have exn : Ex (adr n') (adr (n'.set i (sa, ({ cls := .type "list", data := .seq [Value.ref D.R, .int ((kk : Int) + 1) (t4 + 1)].toArray ep } : Obj)))) := by rw [adr_set f1]; exact Ex.refl _
          -- the row itself
          obtain ⟨rvs, rn, hR, hints, hr40⟩ := H6.S.rw
          have hrl : rvs.length = D.ns.length := by have := hints.sizeZ; rw [List.size_toArray] at this; omega
          have hu : c'.A.units + 64 < cLine := by have := H6.ok.uni; show c'.A.units + 64 < 9900; omega
          have close : ∀ {h9 : Heap} {t9 : Nat} (r : Int) (u : Tok), 0 ≤ r → r < mm → Here D c' ⟨names, true⟩ d ρ4 m4 fz (n'.set i (sa, ({ cls := .type "list", data := .seq [Value.ref D.R, .int ((kk : Int) + 1) (t4 + 1)].toArray ep } : Obj))) (σ.set i (.stt (n + 1))) h9 → P1 (.ret (.int r u)) (up s h9 t9) := by
            intro h9 t9 r u hr0 hr1 H9
            refine hP1 ρ4 m4 _ _ _ (.int r u) h9 t9 exn H9 (.inl rfl) (fun Hc => ?_)
            obtain ⟨rn', rfl⟩ : ∃ q : Nat, r = (q : Int) := ⟨r.toNat, by omega⟩
            exact hQ (.int (Int.ofNat rn')) _ _ _ h9 t9 (ex0.trans exn) Hc ⟨u, rfl⟩ (fin rn' (by omega))
          refine wpAny_execs_cons (wpAny_If (wpAny_isTrue_Compare1 (loc_val (s := up s h6 (t4 + 1 + 1 + 1)) l4r H6 (fun v hv6 => ?_))))
          obtain rfl : v = .ref D.R := hv6
          refine wpAny_List (wpAny_items_nil ⟨Nat.zero_le _, ?_⟩)
          have H7 := H6.grow (h' := h6.push { cls := .type "list", data := .seq ([] : List Value).toArray }) (H6.F.push _) (fun p hp => News.push H6.F H6.S.nw _ rfl p (.tail _ hp))
          have hLR : (h6.push ({ cls := .type "list", data := .seq ([] : List Value).toArray } : Obj)).IsList D.R rvs.toArray := ⟨_, (H7.S.nw _ (List.mem_append_right _ hR)).1, rfl, rn, rfl⟩
          refine ke_eq_ints hLR ⟨_, Heap.get?_push_size _ rfl, rfl, 0, rfl⟩ hints .nil hu (wpAny_truthy_bool ?_)
          by_cases hns : D.ns = []
          · rw [if_pos (by simpa using hns)]
            refine wpAny_execs_cons (wpAny_Return_some (wpAny_Constant_int ?_))
            exact close 0 _ (by omega) (by omega) H7
          · rw [if_neg (by simpa using hns)]
            refine wpAny_execs_nil ?_
            dsimp only
            have hpos : 0 < rvs.length := by
              rw [hrl]
              cases q : D.ns with
              | nil => exact absurd q hns
              | cons _ _ => simp
            have hr40' : rvs.length ≤ 40 := by rw [hrl]; exact hr40
            have H7' : ∀ t, Here D c' ⟨names, true⟩ d ρ4 m4 fz _ (σ.set i (.stt (n + 1))) (up s (h6.push ({ cls := .type "list", data := .seq ([] : List Value).toArray } : Obj)) t).heap := fun _ => H7
            refine wpAny_execs_cons (wpAny_Return_some (wpAny_BinOp (wpAny_BinOp ?_)))
            refine call1 habs hab abs_boot abs_nm (H7' _) rfl (Subscript_ (loc_val l4r (H7' _) (fun v hv7 => ?_)))
            obtain rfl : v = .ref D.R := hv7
            refine wpAny_BinOp (loc_val l4a (H7' _) (fun v hv7 => ?_))
            obtain ⟨t7, rfl⟩ := hv7
            refine len_row hln (seq_self _) hlen (H7' _) l4r hR hr40' (fun t8 k8 => ?_)
            have hl0 : (rvs.length : Int) ≠ 0 := by omega
            refine PyProof.Rows.mod_int hl0 ?_
            have hj0 : 0 ≤ (kk : Int).fmod (rvs.length : Int) := Int.fmod_nonneg_of_pos _ (by omega)
            have hj1 : (kk : Int).fmod (rvs.length : Int) < rvs.length := Int.fmod_lt_of_pos _ (by omega)
            have hjl : ((kk : Int).fmod (rvs.length : Int)).toNat < rvs.length := by omega
            obtain ⟨x, xt, hx1, hx2⟩ := hints.at _ rvs[((kk : Int).fmod (rvs.length : Int)).toNat] (List.getElem?_eq_getElem hjl)
            refine tail_any hLR.typeIs slot_list_getitem.lookup (wpAny_getItem_list hLR hj0 (by omega) (x := .int x xt) (by rw [List.getElem?_toArray, List.getElem?_eq_getElem hjl, hx1]) ?_) rfl
            refine PyProof.Rows.call_abs_int (fun u9 k9 => ?_)
            -- the power
            refine wpAny_BinOp (wpAny_Constant_int (wpAny_BinOp (loc_val l4a (H7' _) (fun v hv7 => ?_))))
            obtain ⟨t7', rfl⟩ := hv7
            refine len_row hln (seq_self _) hlen (H7' _) l4r hR hr40' (fun t8' k8' => ?_)
            refine PyProof.Rows.floordiv_int hl0 ?_ (.inr (room_here (H7' _) ht g1 g2 g3 g4))
            have hq0 : 0 ≤ (kk : Int).fdiv (rvs.length : Int) := Int.fdiv_nonneg (by omega) (by omega)
            have hq1 : (kk : Int).fdiv (rvs.length : Int) ≤ 1000000 := by
              have h1 : (kk : Int).fdiv (rvs.length : Int) ≤ kk := by
                rw [Int.fdiv_eq_ediv_of_nonneg _ (by omega)]
                exact Int.ediv_le_self _ (by omega)
              have := H7.S.zl
              omega
            refine PyProof.Rows.pow_int_small hq0 hq1 (by decide) ?_
            refine PyProof.Rows.floordiv_int (Int.ne_of_gt (Int.pow_pos (by decide))) ?_ (.inr (room_here (H7' _) ht g1 g2 g3 g4))
            refine loc_val l4m (H7' _) (fun v hv7 => ?_)
            obtain ⟨t9, rfl⟩ := hv7
            refine PyProof.Rows.mod_int (by omega) ?_
            exact close _ _ (Int.fmod_nonneg_of_pos _ (by omega)) (Int.fmod_lt_of_pos _ (by omega)) H7
        · cases e
      · cases e
    · cases e
end
end Mine
end

section
/-! the tables, checked -/
set_option maxRecDepth 100000
namespace Mine
open PySem PySem.W PySem.W.X PySem.Calls PyProof.Rows PySem.Spec

theorem clOk_of {K : Frag} {C : Addr} {cd : ClD} (h : clOkB K C cd = true) : ClOk K C cd := by
  unfold clOkB at h
  simp only [Bool.and_eq_true, beq_iff_eq, List.all_eq_true] at h
  obtain ⟨⟨⟨⟨⟨⟨⟨h1, h2⟩, h3⟩, h4⟩, h5⟩, h6⟩, h7⟩, h8⟩ := h
  have ex : cd.exc = true → excB K C = true := fun q => by rw [q] at h1; exact h1
  have inn : cd.exc = false → instB K C = true := fun q => by rw [q] at h1; exact h1
  have ex' : cd.exc = true → findIn K (.ref C) "__getattribute__" = some (some (.builtin "BaseException.__getattribute__")) ∧ findIn K (.ref C) "__getattr__" = some none ∧ excOver K C = true ∧ excNewIn K C = true := fun q => by
    have := ex q
    unfold excB at this
    simp only [Bool.and_eq_true, beq_iff_eq] at this
    obtain ⟨⟨⟨a, b⟩, c⟩, d⟩ := this
    exact ⟨a, b, c, d⟩
  have in' : cd.exc = false → plainGet K C nInit = true ∧ plainOver K C = true ∧ makesIn K C = true := fun q => by
    have := inn q
    unfold instB at this
    simp only [Bool.and_eq_true] at this
    exact ⟨this.1.1, this.1.2, this.2⟩
  exact {
    pg := fun q n => (in' q).1
    hd := h2
    sa := fun _ => h3
    po := fun q => (in' q).2.1
    xg := fun q => ⟨(ex' q).1, (ex' q).2.1, (ex' q).2.2.1⟩
    xs := fun _ => h3
    xn := fun q => (ex' q).2.2.2
    fr := fun x hx => h7 x (mem_iff.mp hx)
    ms := fun x f hx => by
      rw [lk_lookup] at hx
      have := h8 _ (lookup_mem hx)
      exact ⟨this.1.1, this.1.2, this.2⟩
    kp := h4
    mks := fun q => (in' q).2.2
    ini := ⟨h5, h6⟩ }
theorem glOk_of {K : Frag} {x : Str} {v : AV} (h : glOkB K x v = true) : GlOk K x v := by
  unfold glOkB at h
  cases v with
  | old a => exact beq_iff_eq.mp h
  | bi b =>
    simp only [Bool.and_eq_true, beq_iff_eq, Bool.not_eq_true'] at h
    refine ⟨h.1.1, h.1.2, fun e => ?_⟩
    have := h.2
    unfold isNm at this
    rw [e] at this
    rw [beq_self_eq_true] at this; cases this
  | _ => cases h
theorem lkN_mem {α : Type} {x : Nat} {v : α} : ∀ {l : List (Nat × α)}, lkN l x = some v → (x, v) ∈ l
  | p :: l, h => by
    unfold lkN at h
    split at h
    · rename_i q
      cases h
      rw [← Nat.eq_of_beq_eq_true q]
      exact .head _
    · exact .tail _ (lkN_mem h)
theorem memN_mem {a b : Nat} : ∀ {l : List (Nat × Nat)}, memN a b l = true → (a, b) ∈ l
  | p :: l, h => by
    unfold memN at h
    split at h
    · rename_i q
      obtain ⟨q1, q2⟩ := Bool.and_eq_true_iff.mp q
      rw [← Nat.eq_of_beq_eq_true q1, ← Nat.eq_of_beq_eq_true q2]
      exact .head _
    · exact .tail _ (memN_mem h)
theorem tabs_of {D : Wd} {T : KT} (hG : D.G = mkG T) (h : tabsB D.K = true) : D.Ok ∧ IsnOk D ∧ nsIn D.K mainGlobals nAbs = some none ∧ nsIn D.K mainGlobals nLen = some none := by
  unfold tabsB at h
  simp only [Bool.and_eq_true, beq_iff_eq, List.all_eq_true] at h
  obtain ⟨⟨⟨⟨⟨⟨h1, h2⟩, h3⟩, h4⟩, h5⟩, h6⟩, h7⟩ := h
  refine ⟨⟨fun C cd hc => clOk_of (h1 (C, cd) ?_), fun x v hv => glOk_of (h2 (x, v) ?_), h3, ?_⟩, fun a b hab => h5 (a, b) ?_, h6, h7⟩
  · rw [hG] at hc; exact lkN_mem hc
  · rw [hG, lk_lookup] at hv; exact lookup_mem hv
  · rw [hG]; exact h4
  · rw [hG] at hab; exact memN_mem hab
end Mine
end

section
/-! the law -/
set_option maxRecDepth 100000
namespace Mine
open PySem PySem.W PySem.W.X PySem.Calls PyProof.Rows PySem.Spec

theorem stOk_eq {σ : St} {b : Nat} (h : stOk σ b = true) : ∃ k, σ.get 0 = some (.stt k) ∧ k ≤ b := by
  unfold stOk at h
  split at h
  · rename_i n q; exact ⟨n, q, Nat.le_of_ble_eq_true h⟩
  · cases h
theorem ownB_eq {ρ : Loc} {st : Str} (h : ownB ρ st = true) : lk ρ st = some (.val (.own 0)) := by
  unfold ownB at h
  split at h
  · rename_i i q; rw [q, Nat.eq_of_beq_eq_true h]
  · cases h
theorem kindB_eq {ρ : Loc} {kd : Str} (h : kindB ρ kd = true) : ∃ r : Nat, r < 6 ∧ lk ρ kd = some (.val (.int (Int.ofNat r))) := by
  unfold kindB at h
  split at h
  · rename_i i q
    simp only [Bool.and_eq_true, decide_eq_true_eq] at h
    obtain ⟨n, rfl⟩ : ∃ n : Nat, i = (n : Int) := ⟨i.toNat, by omega⟩
    exact ⟨n, by omega, q⟩
  · cases h
theorem σ0_get (j : Nat) : σ0.get j = if j = 0 then some (.stt 0) else none := by
  show (Tr.put 13 .nil 0 (.stt 0)).get j = _
  rw [Tr.get_put _ 13 .nil 0 j (by omega)]
  by_cases h : j = 0
  · rw [if_pos h, if_pos h]
  · rw [if_neg h, if_neg h]; rfl

noncomputable abbrev Wd.at_ (D : Wd) (z : Nat) : Wd := { D with z := z }
section
variable {D : Wd} {c : Cx} {cn : Cn} {d : Nat} {ρ ρ' : Loc} {m : Str → Option Value} {fz fz' news : News'} {σ : St} {s : Shared} {A : Around} {E : Value → Shared → Prop} {h : Heap}
theorem Here.sub (H : Here D c cn d ρ m fz news σ h) (hr : ∀ x e, lk ρ' x = some e → lk ρ x = some e) : Here D c cn d ρ' m fz news σ h := by
  refine ⟨H.ok, H.F, H.S, ⟨?_, fun x i q => H.rho.cel x i (hr _ _ q)⟩⟩
  obtain ⟨ml, l, r⟩ := H.rho.loc
  exact ⟨ml, l, fun x a q => r x a (hr _ _ q)⟩
theorem ok_at {z : Nat} (ok : c.Ok D cn d) : c.Ok (D.at_ z) cn d :=
  ⟨ok.X, ok.H, ok.TR, ok.B, ok.hA, ok.hf, ok.hfk, ok.ef, ok.hk, ok.hg, ok.hb, ok.dbg, ok.nml, ok.nmg, ok.dep, ok.uni, ok.hh, ok.dl, ok.seer, ok.top⟩
/-- the store swept: the state alone stays -/
theorem gc {k : Nat} (H : Here D c cn d ρ m fz news σ h) (h0 : σ.get 0 = some (.stt k)) (hz : D.z + k ≤ 20) (hρ : ∀ x e, lk ρ' x = some e → lk ρ x = some e ∧ (e = .val (.own 0) ∨ ∃ i, e = .val (.int i))) :
    ∃ rest p, Here (D.at_ (D.z + k)) c cn d ρ' m (rest ++ fz) [p] σ0 h := by
  obtain ⟨p, hp, hr⟩ := H.S.ob 0 _ h0
  cases news with
  | nil => simp at hp
  | cons p' rest =>
    simp at hp
    subst hp
    have sub : ∀ q ∈ fz, q ∈ rest ++ fz := fun q hq => List.mem_append_right _ hq
    refine ⟨rest, p', ok_at H.ok, H.F, ⟨?_, hz, H.S.nw, H.S.nd, rfl, ?_, fun j o hj => ?_⟩, ⟨?_, fun x i hx => ?_⟩⟩
    · obtain ⟨vs, n, h1, r⟩ := H.S.rw
      exact ⟨vs, n, sub _ h1, r⟩
    · show 1 ≤ 4000; omega
    · rw [σ0_get] at hj
      by_cases q : j = 0
      · rw [if_pos q] at hj
        cases hj
        subst q
        refine ⟨p', rfl, ?_⟩
        obtain ⟨kk, t, e, h1, h2⟩ := hr
        exact ⟨kk, t, e, h1, h2⟩
      · rw [if_neg q] at hj; cases hj
    · obtain ⟨ml, l, r⟩ := H.rho.loc
      refine ⟨ml, ?_, fun x a hx => ?_⟩
      · rcases l with l | ⟨ob, es, ep, h1, r⟩
        · exact .inl l
        · exact .inr ⟨ob, es, ep, sub _ h1, r⟩
      · obtain ⟨h1, h2⟩ := hρ x _ hx
        obtain ⟨q1, v, q2, q3⟩ := r x a h1
        refine ⟨q1, v, q2, ?_⟩
        rcases h2 with h2 | ⟨i, h2⟩
        · cases h2
          obtain ⟨a', e1, e2⟩ := q3
          refine ⟨a', ?_, e2⟩
          simp [adr] at e1 ⊢
          exact e1
        · cases h2; exact q3
    · obtain ⟨h1, h2⟩ := hρ x _ hx
      rcases h2 with h2 | ⟨i, h2⟩ <;> cases h2
end
end Mine
end

section
/-! the law's body -/
set_option maxRecDepth 100000
namespace Mine
open PySem PySem.W PySem.W.X PySem.Calls PyProof.Rows PySem.Spec

section
variable {D : Wd} {c : Cx} {fz news : News'} {s : Shared} {m : Str → Option Value} {p : LawP}

theorem lk2 {x y : Str} {a b : Ent} {z : Str} {e : Ent} (h : lk ([(x, a), (y, b)] : Loc) z = some e) : (z = x ∧ e = a) ∨ (z = y ∧ e = b) := by
  rw [lk_cons] at h
  dsimp only at h
  cases q : seq x z with
  | true => rw [q] at h; cases h; exact .inl ⟨(seq_iff.mp q).symm, rfl⟩
  | false =>
    rw [q, cond_false, lk_cons] at h
    dsimp only at h
    cases q' : seq y z with
    | true => rw [q'] at h; cases h; exact .inr ⟨(seq_iff.mp q').symm, rfl⟩
    | false => rw [q'] at h; cases h
theorem lk1 {x : Str} {a : Ent} {z : Str} {e : Ent} (h : lk ([(x, a)] : Loc) z = some e) : z = x ∧ e = a := by
  rw [lk_cons] at h
  dsimp only at h
  cases q : seq x z with
  | true => rw [q] at h; cases h; exact ⟨(seq_iff.mp q).symm, rfl⟩
  | false => rw [q] at h; cases h

/-- one turn -/
theorem turn_rule {E : Value → Shared → Prop} {Q : Flow → Shared → Prop} (Sd : ∀ z n, Snd (D.at_ z) (ev D.G n)) (ht1 : okT1 D.G p = true) (htb : ∀ r, r < 6 → okTurn D.G p r = true) {z : Nat} (hz : z + 4 ≤ 20) (ow : Own c) (H : Here (D.at_ z) c ⟨p.names, true⟩ 30 [(p.st, .val (.own 0))] m fz news σ0 s.heap)
    (hQ : ∀ z' rest m' q h t, z' ≤ z + 4 → Here (D.at_ z') c ⟨p.names, true⟩ 30 [(p.st, .val (.own 0))] m' (rest ++ fz) [q] σ0 h → Q .next (up s h t)) : wpAny D.M c.A (execs (p.t1 :: p.tb) c.env) Q E s := by
  refine wpAny_execs_cons ((Sd z 60).S (D := D.at_ z) ht1 ow H (fun fl ρ1 m1 σ1 n1 f h1 t1 ex1 H1 hf e1 => ?_) PostXs.nx)
  dsimp only at e1
  split at e1
  · obtain rfl : f = .next := hf
    simp only [Bool.and_eq_true] at e1
    obtain ⟨⟨e1, e2⟩, e3⟩ := e1
    obtain ⟨k, g1, g2⟩ := stOk_eq e1
    have g3 := ownB_eq e2
    obtain ⟨r, hr, g4⟩ := kindB_eq e3
    obtain ⟨rest, q, H2⟩ := gc (ρ' := [(p.kd, .val (.int (Int.ofNat r))), (p.st, .val (.own 0))]) H1 g1 (by show z + k ≤ 20; omega) (fun x e hx => by
      rcases lk2 hx with ⟨rfl, rfl⟩ | ⟨rfl, rfl⟩
      · exact ⟨g4, .inr ⟨_, rfl⟩⟩
      · exact ⟨g3, .inl rfl⟩)
    dsimp only
    refine (Sd (z + k) 400).Ss (D := D.at_ (z + k)) (s := up s h1 t1) (htb r hr) ow H2 (fun fl ρ3 m3 σ3 n3 f h3 t3 ex3 H3 hf e3 => ?_) PostXs.nx
    dsimp only at e3
    split at e3
    · obtain rfl : f = .next := hf
      simp only [Bool.and_eq_true] at e3
      obtain ⟨e3, e4⟩ := e3
      obtain ⟨k', g5, g6⟩ := stOk_eq e3
      have g7 := ownB_eq e4
      obtain ⟨rest', q', H4⟩ := gc (ρ' := [(p.st, .val (.own 0))]) H3 g5 (by show z + k + k' ≤ 20; omega) (fun x e hx => by
        obtain ⟨rfl, rfl⟩ := lk1 hx
        exact ⟨g7, .inl rfl⟩)
      refine hQ (z + k + k') (rest' ++ rest) m3 q' h3 t3 (by omega) ?_
      rw [List.append_assoc]
      exact H4
    · cases e3
  · cases e1

/-- the loop -/
theorem loop_rule {E : Value → Shared → Prop} {Q : Flow → Shared → Prop} {gp : Pos} (Sd : ∀ z n, Snd (D.at_ z) (ev D.G n)) (hnm : nmB p = true) (ht1 : okT1 D.G p = true) (htb : ∀ r, r < 6 → okTurn D.G p r = true) {z x n : Nat} {a : Addr} {o : Obj} (hn : n ≤ 4) (hz : z + 4 * n ≤ 20) (ow : Own c)
    (H : Here (D.at_ z) c ⟨p.names, true⟩ 30 [(p.st, .val (.own 0))] m ((a, o) :: fz) news σ0 s.heap) (hi : ItR (adr news) (.rit x n) o)
    (hQ : ∀ m' h t, Fr c.h₀ c.L h m' → Q .next (up s h t)) :
    codeAny D.M c.A (.forLoop (.Name p.gv gp) (.ref a) (p.t1 :: p.tb) [] c.env) (fun r s' => match r with | .ok f => Q f s' | .error e => cameBackBy D.M c.A c.env E e s') s := by
  have hh : c.A.handled = none := H.ok.hh rfl
  unfold nmB at hnm
  simp only [Bool.and_eq_true, Bool.not_eq_true'] at hnm
  obtain ⟨⟨⟨⟨n1, n2⟩, n3⟩, n4⟩, n5⟩ := hnm
  refine codeAny_forLoop_any (I := fun j s' => ∃ z x m news o fz h t', s' = up s h t' ∧ z + 4 * j ≤ 20 ∧ Here (D.at_ z) c ⟨p.names, true⟩ 30 [(p.st, .val (.own 0))] m ((a, o) :: fz) news σ0 h ∧ ItR (adr news) (.rit x j) o)
    (fun j s' hI => ?_) n ⟨z, x, m, news, o, fz, s.heap, s.toks, rfl, hz, H, hi⟩
  obtain ⟨z, x, m, news, o, fz, h4, t4, rfl, hz, H4, hi4⟩ := hI
  refine next_rule (D := D.at_ z) (s := up s h4 t4) (item := fun v i' => match v, i' with | .int _, .rit _ b => Nat.beq (b + 1) j | _, _ => false) (done := true) (by
    unfold nextV
    dsimp only
    cases j with
    | zero => rfl
    | succ n => exact Nat.beq_refl _) H4 hi4 hh (fun b i' o' vv h5 t5 e5 H5 hi5 hv5 => ?_) (fun h5 t5 e5 H5 => wpAny_execs_nil (hQ _ h5 t5 H5.F))
  split at e5
  · rename_i xi _ x' b'
    have hj := Nat.eq_of_beq_eq_true e5
    refine letGo_rule (D := D.at_ z) (s := up s h5 t5) hi5 (H5.fzNews _ (.head _)).1 ?_
    refine PyProof.Rows.assign_Name (storeL (D := D.at_ z) (s := up s h5 t5) (isLoc_eq n3) ow H5 hv5 (fun m6 h6 t6 H6 => ?_))
    have H6' : Here (D.at_ z) c ⟨p.names, true⟩ 30 [(p.st, .val (.own 0))] m6 ((a, o') :: fz) news σ0 h6 := H6.sub (fun y e hy => by
      obtain ⟨rfl, rfl⟩ := lk1 hy
      rw [lk_put, if_neg (seq_false n4)]
      exact hy)
    refine turn_rule (s := up s h6 t6) Sd ht1 htb (z := z) (by omega) ow H6' (fun z' rest m7 q h7 t7 hz' H7 => ?_)
    refine ⟨b', by omega, z', x', m7, [q], o', rest ++ fz, h7, t7, rfl, by omega, H7.perm List.perm_middle, ?_⟩
    exact hi5
  · cases e5

theorem ints_take : ∀ (n : Nat) {vs : List Value} {ns : List Int}, IntsAre vs ns → IntsAre (vs.take n) (ns.take n)
  | 0, _, _, _ => by simpa using IntsAre.nil
  | n + 1, _, _, .nil => by simpa using IntsAre.nil
  | n + 1, _, _, .cons k t h => by simpa using IntsAre.cons k t (ints_take n h)
/-- the whole -/
theorem law_run {E : Value → Shared → Prop} {Q : Flow → Shared → Prop} {fd : FnD} (Sd : ∀ R ns z n, Snd { D with R := R, ns := ns, z := z } (ev D.G n)) (O : D.Ok) (hp : LawShape fd p) (hnm : nmB p = true) (hit : okIt D.G p = true) (ht1 : okT1 D.G p = true) (htb : ∀ r, r < 6 → okTurn D.G p r = true)
    (ow : Own c) (ok : c.Ok D ⟨fd.names, true⟩ 30) (F : Fr c.h₀ c.L s.heap m) {a : Addr} {ws : List Value} {ns : List Int} (hm : m p.sc = some (.ref a)) (hL : c.h₀.IsList a ws.toArray) (hI : IntsAre ws ns) (hlen : ns.length ≤ 63)
    (hQ : ∀ m' h t, Fr c.h₀ c.L h m' → Q (.ret (.bool true)) (up s h t)) : wpAny D.M c.A (execs fd.body c.env) Q E s := by
  obtain ⟨sc2, st, gv, kd, it, t1, tb, names⟩ := p
  obtain ⟨kz, pz, hfd⟩ := hp
  dsimp only at hfd
  subst hfd
  · skip
    · skip
      have hnm' := hnm
      unfold nmB at hnm'
      simp only [Bool.and_eq_true, Bool.not_eq_true'] at hnm'
      obtain ⟨⟨⟨⟨n1, n2⟩, n3⟩, n4⟩, n5⟩ := hnm'
      have hsk : c.env.kindOf sc2 = some .local := ok.nml sc2 (isLoc_eq n1)
      have hdb : (sc2 == ("__debug__" : Str)) = false := by
        have q : nDebug = ("__debug__" : Str) := by decide +kernel
        refine beq_eq_false_iff_ne.mpr fun z => ?_
        have := ok.dbg
        rw [q, ← z, hsk] at this; cases this
      have hLs : s.heap.IsList a ws.toArray := by
        obtain ⟨o, ho, r⟩ := hL
        exact ⟨o, F.keep _ _ ho, r⟩
      have hwl : ws.length = ns.length := by have := hI.sizeZ; rw [List.size_toArray] at this; omega
      refine wpAny_execs_cons (wpAny_Assign_Name (wpAny_List (wpAny_items_cons (Subscript_ (wpAny_Name (wpAny_loadName_local ok.hk hsk (show s.heap.Ns c.env.locals m by rw [ow.2]; exact F.ns) hm ?_) hdb)))) rfl)
      refine wpAny_Slice (wpAny_evalPart_none ?_)
      refine wpAny_Constant_int (k := kz 0) (pos := pz 2) ?_
      refine wpAny_evalPart_none ?_
      refine tail_any (Heap.IsList.typeIs (s := { s with heap := s.heap.push { cls := .type "slice", data := .fields #[.none, .int 40 s.toks, .none] } }) (hLs.push _)) list_getitem_lookup
        (wpAny_getItem_list_slice (hLs.push _) (Heap.IsSliceOf.new ..) .none (.int _ _) .none (by simp) ?_ (by rw [List.size_toArray, hwl, sizeLine_eq]; omega)) rfl
      rw [kms_pick_eq, show ((40 : Int)) = ((40 : Nat) : Int) from rfl, pick_to]
      refine wpAny_items_cons (wpAny_Constant_int (wpAny_items_nil ⟨by show 2 ≤ sizeLine; rw [sizeLine_eq]; omega, ?_⟩))
      -- the state is laid
      let D' : Wd := { D with R := (s.heap.push ({ cls := .type "slice", data := .fields #[.none, .int 40 s.toks, .none] } : Obj)).objs.size, ns := ns.take 40, z := 0 }
      have ok' : c.Ok D' ⟨names, true⟩ 30 := ⟨ok.X, ok.H, ok.TR, ok.B, ok.hA, ok.hf, ok.hfk, ok.ef, ok.hk, ok.hg, ok.hb, ok.dbg, ok.nml, ok.nmg, ok.dep, ok.uni, ok.hh, ok.dl, ok.seer, ok.top⟩
      have O' : D'.Ok := ⟨O.cls, O.glob, O.sys, O.tkp⟩
      have HB : Here D' c ⟨names, true⟩ 30 [] m [((s.heap.push ({ cls := .type "slice", data := .fields #[.none, .int 40 s.toks, .none] } : Obj)).objs.size, ({ cls := .type "list", data := .seq (List.take 40 ws.toArray.toList).toArray } : Obj))] [] ⟨.nil, 0⟩
          ((s.heap.push ({ cls := .type "slice", data := .fields #[.none, .int 40 s.toks, .none] } : Obj)).push ({ cls := .type "list", data := .seq (List.take 40 ws.toArray.toList).toArray } : Obj)) := by
        refine ⟨ok', (F.push _).push _, ⟨⟨ws.take 40, 0, .head _, ints_take 40 hI, ?_⟩, Nat.zero_le _, News.push (F.push _) News.nil _ rfl, by simp, rfl, Nat.zero_le _, fun j o hj => ?_⟩, ⟨⟨m, .inl ⟨ow.2, rfl⟩, fun x b hx => by cases hx⟩, fun x i hx => by cases hx⟩⟩
        · show (ns.take 40).length ≤ 40
          rw [List.length_take]; omega
        · cases hj
      have H1 := HB.push (o := .stt 0) (a := _) (ob := ({ cls := .type "list", data := .seq [Value.ref D'.R, .int 0 (s.toks + 1)].toArray } : Obj)) (show ORD D' _ (.stt 0) _ from ⟨0, s.toks + 1, 0, Nat.zero_le _, rfl⟩) (by decide) (HB.F.push _) (News.push HB.F HB.S.nw _ rfl) (fresh_top HB.S.nw)
      refine storeL (D := D') (b := .own 0) (isLoc_eq n2) ow H1 ⟨_, rfl, rfl⟩ (fun m4 h4 t4 H4 => ?_)
      dsimp only
      have Sd' : ∀ z n, Snd (D'.at_ z) (ev D'.G n) := fun z n => Sd _ _ z n
      refine wpAny_execs_cons (wpAny_For (iter_rule (D := D') (A := c.A) O' (Sd' 0 60) hit H4 PostX.nx (fun i σ' news' a' o' h5 t5 ex5 H5 hi5 e5 => ?_)).1 (iter_fold hit))
      split at e5
      · rename_i x n
        obtain ⟨e5, e6⟩ := Bool.and_eq_true_iff.mp e5
        have hn := Nat.le_of_ble_eq_true e5
        obtain ⟨k, g1, g2⟩ := stOk_eq e6
        obtain ⟨rest, q, H6⟩ := gc (ρ' := [(st, .val (.own 0))]) H5 g1 (by show 0 + k ≤ 20; omega) (fun x e hx => by
          obtain ⟨rfl, rfl⟩ := lk1 hx
          exact ⟨by show lk [(x, _)] x = _; rw [lk_cons, seq_self]; rfl, .inl rfl⟩)
        refine loop_rule (D := D') Sd' hnm ht1 htb hn (z := 0 + k) (by omega) ow (H6.perm List.perm_middle) hi5 (fun m7 h7 t7 F7 => ?_)
        exact wpAny_execs_cons (wpAny_Return_some (wpAny_Constant_bool (hQ m7 h7 t7 F7)))
      · cases e5
end
end Mine
end

section
/-! the law, entered -/
set_option maxRecDepth 100000
namespace Mine
open PySem PySem.W PySem.W.X PySem.Calls PyProof.Rows PySem.Spec

theorem law_end {prog : Program} {w : World} {K : Frag} {T : KT} {p : Program} {loose : List Str} {mean : ExcName → Option Value} {mg mb : Str → Option Value} {h₀ : Heap} {name : Str} {scope : Scope} {fa a : Addr} {cd : Value} {o : Obj} {fo : FuncData} {body : List Stmt}
    {s : Shared} {m : Str → Option Value} {ws : List Value} {ns : List Int} {Q : Flow → Shared → Prop} {E : Value → Shared → Prop} (KX : K.In h₀) (ZH : KT.Holds h₀ 1 0 T) (TP : Top p loose mean mg mb h₀) (hi : importsNone p = true) (ht : prog.given.tree = none)
    (htab : tabsB K = true) (hlaw : nsIn K mainGlobals nLaw = some (some (.ref lawAt))) (hmg : mg nLaw = some (.ref fa)) (ho : h₀.get? fa = some o) (hd : o.data = .func fo) (hfb : fo.body = .stmts body) (hsc : fo.scope = scope)
    (hall : lawAll T = true) (hsh : LawAt T) (htk : TakeAll T) (t0 : lawTurn T 0 = true) (t1 : lawTurn T 1 = true) (t2 : lawTurn T 2 = true) (t3 : lawTurn T 3 = true) (t4 : lawTurn T 4 = true) (t5 : lawTurn T 5 = true)
    (F : Fr h₀ h₀.objs.size s.heap m) (hm : m nScript = some (.ref a)) (hL : h₀.IsList a ws.toArray) (hI : IntsAre ws ns) (hlen : ns.length ≤ 63)
    (hQ : ∀ m' h t, Fr h₀ h₀.objs.size h m' → Q (.ret (.bool true)) (up s h t)) :
    wpAny (model prog w) (callerA.deeper (envOf name scope h₀.objs.size fa cd)) (execs body (envOf name scope h₀.objs.size fa cd)) Q E s := by
  have TR := topRead_of TP
  obtain rfl : fa = lawAt := by
    have := mg_of KX TR.g hlaw
    rw [hmg] at this
    cases this; rfl
  unfold lawAll at hall
  obtain ⟨hfd, hlp⟩ := hsh
  simp only [Bool.and_eq_true] at hall
  obtain ⟨⟨⟨hnm, hit⟩, ht1⟩, hsn⟩ := hall
  have hturn : ∀ r, lawTurn T r = true → okTurn (mkG T) (lawP (fdOf T lawAt)) r = true := fun r h => h
  generalize fdOf T lawAt = fd at *
  · skip
    · skip
      obtain ⟨o', fo', b', dv, g1, g2, g3, g4, g5, g6, g7, g8, g9⟩ := fnAt_obj hfd
      have hat := kt_at ZH g1
      rw [ho] at hat
      cases hat
      rw [hd] at g2
      cases g2
      rw [hfb] at g3
      cases g3
      unfold fnOk at g6
      simp only [Bool.and_eq_true, List.isEmpty_iff, Option.isNone_iff_eq_none, Bool.not_eq_true'] at g6
      obtain ⟨⟨⟨⟨⟨⟨⟨⟨⟨⟨⟨⟨⟨⟨⟨⟨k1, k2⟩, k3⟩, k4⟩, k5⟩, k6⟩, k7⟩, k8⟩, k9⟩, k10⟩, k11⟩, k12⟩, k13⟩, k14⟩, k15⟩, k16⟩, k17⟩ := g6
      subst hsc
      let D : Wd := { prog := prog, w := w, K := K, G := mkG T, p := p, loose := loose, mg := mg, mb := mb, R := 0, z := 0, ns := [] }
      let env := envOf name fo.scope h₀.objs.size lawAt cd
      let c : Cx := { A := callerA.deeper env, base := h₀, outer := [], h₀ := h₀, L := h₀.objs.size, env := env, fe := env }
      obtain ⟨O, I, hab, hlen'⟩ := tabs_of (D := D) (T := T) rfl htab
      have Sd : ∀ R ns z n, Snd { D with R := R, ns := ns, z := z } (ev D.G n) := fun R ns z n => by
        obtain ⟨hfdt, hdt⟩ := htk
        exact snd_all (D := { D with R := R, ns := ns, z := z }) ⟨O.cls, O.glob, O.sys, O.tkp⟩ I (take_ok (D := { D with R := R, ns := ns, z := z }) ht hab hlen' hfdt hdt) n
      have kd : ∀ y, env.kindOf y = lk fo.scope.names y := fun y => (lk_lookup y fo.scope.names).symm
      have ok : c.Ok D ⟨fd.names, true⟩ 30 := by
        refine ⟨KX, ZH, TR, ⟨callerA, below_caller h₀⟩, Around.frames_deeper rfl, rfl, isFun_eq k8, rfl, isFun_eq k8, rfl, rfl, ?_, fun y hy => ?_, fun y hy => ?_, ?_, ?_, fun _ => rfl, Nat.le_refl _, TP.seer hi, fun _ => rfl⟩
        · rw [kd]; exact k15
        · rw [kd, ← g9]; exact hy
        · rw [kd, ← g9]; exact hy
        · show 1 + claimMargin + 1 + 4 * 30 ≤ 800
          decide
        · show 4 + 3 + 20 * 30 ≤ 9000
          decide
      rw [← g8]
      refine law_run (D := D) (c := c) (p := lawP fd) Sd O hlp hnm hit ht1 (fun r hr => ?_) ⟨rfl, rfl⟩ ok F (by rw [seq_iff.mp hsn]; exact hm) hL hI hlen hQ
      match r, hr with
      | 0, _ => exact hturn 0 t0
      | 1, _ => exact hturn 1 t1
      | 2, _ => exact hturn 2 t2
      | 3, _ => exact hturn 3 t3
      | 4, _ => exact hturn 4 t4
      | 5, _ => exact hturn 5 t5
      | n + 6, h => exact absurd h (by omega)
end Mine
end

section
/-! the states that the top leaves, piece by piece -/
set_option maxRecDepth 100000
namespace Mine
namespace Hd
open PySem PySem.W PySem.W.X PySem.Calls PyProof.Rows PySem.Challenge
section
noncomputable def dec (n : Nat) : List Nat := @Nat.rec (fun _ => Nat → List Nat) (fun _ => []) (fun _ ih n => @Bool.rec (fun _ => List Nat) (Nat.mod n (nat_lit 256) :: ih (Nat.div n (nat_lit 256))) [] (Nat.beq n (nat_lit 0))) (nat_lit 400) n
noncomputable def u (n : Nat) : Str := ⟨⟨dec n⟩⟩
noncomputable def vs (x : Str) (t : Nat) : Value := .str x t
noncomputable def vi (n t : Nat) : Value := .int (.ofNat n) t
noncomputable def en (P : Params) (x : Str) (t : Nat) (v : Value) : DictEntry := ⟨PyData.keyHash P x, .str x t, v⟩
noncomputable def lf (o : Obj) : BT := .node o .nil .nil
noncomputable def bE : List Stmt := behindTheImports pw_pq1414_01
noncomputable def kids : Stmt → List Stmt
  | .FunctionDef _ _ b .. => b
  | .ClassDef _ _ _ b .. => b
  | _ => []
noncomputable def nth : List Stmt → Nat → Stmt
  | [], _ => .Pass ⟨0, 0, 0, 0⟩
  | s :: l, i => @Bool.rec (fun _ => Stmt) (nth l (Nat.pred i)) s (Nat.beq i (nat_lit 0))
noncomputable def st1 (i : Nat) : Stmt := nth bE i
noncomputable def st2 (i j : Nat) : Stmt := nth (kids (nth bE i)) j
noncomputable def fO (s : Stmt) (d : Bool) (q : Str) (g : Addr) (df kw doc pm : Value) (an : Option Addr) (cd ct : Value) (b : Addr) : FuncData := match s with
  | .FunctionDef name args body _ _ _ scope _ _ _ => ⟨name, q, args, .stmts (cond d (body.drop 1) body), scope, g, [], df, kw, doc, pm, an, cd, ct, b⟩
  | _ => default
noncomputable def es2 (P : Params) : List DictEntry := [en P (u (nat_lit 85129116768494180498695589069698160004955354133340253633475733047347280244)) (nat_lit 212) (vi (nat_lit 31) (nat_lit 0)), en P (u (nat_lit 194673634784754008932860034115759107986259355739628629037015317527489706356)) (nat_lit 213) (vi (nat_lit 1) (nat_lit 0))]
noncomputable def es3 (P : Params) : List DictEntry := [en P (u (nat_lit 6872323076851130207)) (nat_lit 165) (vs (u (nat_lit 3897150338093948975878642295148)) (nat_lit 1479)), en P (u (nat_lit 26845003462762335)) (nat_lit 166) .none, en P (u (nat_lit 115298448249767165785300831)) (nat_lit 167) .none, en P (u (nat_lit 450385499664681318244191)) (nat_lit 168) (.builtin "__main__.__loader__#\x6fpaque"), en P (u (nat_lit 6872320843720122207)) (nat_lit 169) .none, en P (u (nat_lit 495204175889884515450050897942503263)) (nat_lit 170) (.ref (nat_lit 6)), en P (u (nat_lit 29516468994777367089179156319)) (nat_lit 171) (.ref (nat_lit 4)), en P (u (nat_lit 6872323072689856351)) (nat_lit 173) (vs (u (nat_lit 9621326145873605890393926034223)) (nat_lit 172)), en P (u (nat_lit 450384490862771188227935)) (nat_lit 174) .none, en P (u (nat_lit 465674794847)) (nat_lit 193) (.ref (nat_lit 21)), en P (u (nat_lit 2110959431130824470339)) (nat_lit 215) (.ref (nat_lit 31)), en P (u (nat_lit 30506446003529042)) (nat_lit 240) (.ref (nat_lit 51)), en P (u (nat_lit 125822987027794)) (nat_lit 269) (.ref (nat_lit 70)), en P (u (nat_lit 31071095449275572413736511820)) (nat_lit 294) (.ref (nat_lit 89)), en P (u (nat_lit 33542168233125172940205483346)) (nat_lit 321) (.ref (nat_lit 108)), en P (u (nat_lit 511812869768145372409676)) (nat_lit 348) (.ref (nat_lit 127)), en P (u (nat_lit 1819047246)) (nat_lit 379) (.ref (nat_lit 146)), en P (u (nat_lit 29113321788762445)) (nat_lit 408) (.ref (nat_lit 167)), en P (u (nat_lit 125823019607382)) (nat_lit 450) (.ref (nat_lit 196)), en P (u (nat_lit 119225648511315)) (nat_lit 481) (.ref (nat_lit 217)), en P (u (nat_lit 1819042115)) (nat_lit 516) (.ref (nat_lit 239)), en P (u (nat_lit 28554821421198403)) (nat_lit 552) (.ref (nat_lit 261)), en P (u (nat_lit 31078196194145602)) (nat_lit 589) (.ref (nat_lit 282)), en P (u (nat_lit 140756726394926624662777413)) (nat_lit 626) (.ref (nat_lit 304)), en P (u (nat_lit 28555869292556880)) (nat_lit 662) (.ref (nat_lit 325)), en P (u (nat_lit 1937010500)) (nat_lit 693) (.ref (nat_lit 346)), en P (u (nat_lit 1819047278)) (nat_lit 699) (.ref (nat_lit 357)), en P (u (nat_lit 29113321788762477)) (nat_lit 705) (.ref (nat_lit 364)), en P (u (nat_lit 2110239401768200005731)) (nat_lit 712) (.ref (nat_lit 371)), en P (u (nat_lit 431198396782)) (nat_lit 720) (.ref (nat_lit 378)), en P (u (nat_lit 123836377112144154064413040)) (nat_lit 726) (.ref (nat_lit 383)), en P (u (nat_lit 435610937463)) (nat_lit 733) (.ref (nat_lit 390)), en P (u (nat_lit 1734437990)) (nat_lit 740) (.ref (nat_lit 397)), en P (u (nat_lit 1954047348)) (nat_lit 747) (.ref (nat_lit 404)), en P (u (nat_lit 119225648511347)) (nat_lit 754) (.ref (nat_lit 411)), en P (u (nat_lit 28832903256105315)) (nat_lit 763) (.ref (nat_lit 418)), en P (u (nat_lit 114849160783212)) (nat_lit 771) (.ref (nat_lit 425)), en P (u (nat_lit 133507968132003860941075305)) (nat_lit 778) (.ref (nat_lit 432)), en P (u (nat_lit 435710683251)) (nat_lit 785) (.ref (nat_lit 439)), en P (u (nat_lit 122641728202129683212365676)) (nat_lit 795) (.ref (nat_lit 446)), en P (u (nat_lit 123649615949676)) (nat_lit 804) (.ref (nat_lit 453)), en P (u (nat_lit 7453010330410836301)) (nat_lit 889) (.ref (nat_lit 510)), en P (u (nat_lit 36045811343340596304970870628)) (nat_lit 896) (.ref (nat_lit 521)), en P (u (nat_lit 9227727703896348101202602848865)) (nat_lit 908) (.ref (nat_lit 528)), en P (u (nat_lit 140803950559924204434976373)) (nat_lit 914) (.ref (nat_lit 533)), en P (u (nat_lit 139505445986209994665910637)) (nat_lit 920) (.ref (nat_lit 539)), en P (u (nat_lit 31397510328417944283963617124)) (nat_lit 931) (.ref (nat_lit 546)), en P (u (nat_lit 2361506002213494275268710822670178)) (nat_lit 938) (.ref (nat_lit 553)), en P (u (nat_lit 9224632821146462012768653700964)) (nat_lit 947) (.ref (nat_lit 560)), en P (u (nat_lit 537045991524533412672701041947862372)) (nat_lit 956) (.ref (nat_lit 567)), en P (u (nat_lit 35721800206462927246776494434)) (nat_lit 962) (.ref (nat_lit 573)), en P (u (nat_lit 549795218527000316572521)) (nat_lit 970) (.ref (nat_lit 580)), en P (u (nat_lit 154763657361063560824011076847971559789)) (nat_lit 981) (.ref (nat_lit 587)), en P (u (nat_lit 28832903374073700)) (nat_lit 989) (.ref (nat_lit 594)), en P (u (nat_lit 8032801207806007333036490716009)) (nat_lit 997) (.ref (nat_lit 601)), en P (u (nat_lit 478792262542605837168484)) (nat_lit 1008) (.ref (nat_lit 608)), en P (u (nat_lit 562744125738994978909459153499943785)) (nat_lit 1018) (.ref (nat_lit 615)), en P (u (nat_lit 8035896067037232874723309745001)) (nat_lit 1026) (.ref (nat_lit 622)), en P (u (nat_lit 435626799686)) (nat_lit 1067) (.ref (nat_lit 639)), en P (u (nat_lit 2110959975595354715717)) (nat_lit 1406) (.ref (nat_lit 849)), en P (u (nat_lit 7957684015797789032)) (nat_lit 1413) (.ref (nat_lit 860)), en P (u (nat_lit 8247344779184334183)) (nat_lit 1423) (.ref (nat_lit 867)), en P (u (nat_lit 7381223263511077230)) (nat_lit 1429) (.ref (nat_lit 872)), en P (u (nat_lit 112628528408932)) (nat_lit 1437) (.ref (nat_lit 879)), en P (u (nat_lit 123836377036150261087562084)) (nat_lit 1443) (.ref (nat_lit 884)), en P (u (nat_lit 1684366702)) (nat_lit 1453) (.ref (nat_lit 891)), en P (u (nat_lit 483735847805107200749414)) (nat_lit 1459) (.ref (nat_lit 896)), en P (u (nat_lit 521515500515640081801075)) (nat_lit 1468) (.ref (nat_lit 903)), en P (u (nat_lit 1907970656748337717107)) (nat_lit 1478) (.ref (nat_lit 910)), en P (u (nat_lit 1870858745032837524575)) (nat_lit 1490) (.ref (nat_lit 917)), en P (u (nat_lit 7234029357279308895)) (nat_lit 1499) (.ref (nat_lit 924)), en P (u (nat_lit 521404241352874967264351)) (nat_lit 1508) (.ref (nat_lit 931)), en P (u (nat_lit 1853136508753088179295)) (nat_lit 1517) (.ref (nat_lit 938)), en P (u (nat_lit 521331171860693811031135)) (nat_lit 1528) (.ref (nat_lit 945)), en P (u (nat_lit 549665232268924605787231)) (nat_lit 1537) (.ref (nat_lit 952)), en P (u (nat_lit 7823724)) (nat_lit 1543) (.ref (nat_lit 957))]
noncomputable def es12 : List Value := [(vi (nat_lit 1) (nat_lit 0)), (vi (nat_lit 0) (nat_lit 0)), (.ref (nat_lit 20)), (vi (nat_lit 5) (nat_lit 0)), (vi (nat_lit 0) (nat_lit 0)), (.ref (nat_lit 27)), (vi (nat_lit 7) (nat_lit 0)), (vi (nat_lit 0) (nat_lit 0)), (.ref (nat_lit 40)), (vi (nat_lit 11) (nat_lit 0)), (vi (nat_lit 0) (nat_lit 0)), (.ref (nat_lit 59)), (vi (nat_lit 17) (nat_lit 0)), (vi (nat_lit 0) (nat_lit 0)), (.ref (nat_lit 78)), (vi (nat_lit 21) (nat_lit 0)), (vi (nat_lit 0) (nat_lit 0)), (.ref (nat_lit 97)), (vi (nat_lit 26) (nat_lit 0)), (vi (nat_lit 0) (nat_lit 0)), (.ref (nat_lit 116)), (vi (nat_lit 32) (nat_lit 0)), (vi (nat_lit 0) (nat_lit 0)), (.ref (nat_lit 135)), (vi (nat_lit 37) (nat_lit 0)), (vi (nat_lit 0) (nat_lit 0)), (.ref (nat_lit 156)), (vi (nat_lit 42) (nat_lit 0)), (vi (nat_lit 0) (nat_lit 0)), (.ref (nat_lit 177)), (vi (nat_lit 53) (nat_lit 0)), (vi (nat_lit 0) (nat_lit 0)), (.ref (nat_lit 206)), (vi (nat_lit 59) (nat_lit 0)), (vi (nat_lit 0) (nat_lit 0)), (.ref (nat_lit 227)), (vi (nat_lit 67) (nat_lit 0)), (vi (nat_lit 0) (nat_lit 0)), (.ref (nat_lit 249)), (vi (nat_lit 75) (nat_lit 0)), (vi (nat_lit 0) (nat_lit 0)), (.ref (nat_lit 271)), (vi (nat_lit 84) (nat_lit 0)), (vi (nat_lit 0) (nat_lit 0)), (.ref (nat_lit 292)), (vi (nat_lit 94) (nat_lit 0)), (vi (nat_lit 0) (nat_lit 0)), (.ref (nat_lit 314)), (vi (nat_lit 104) (nat_lit 0)), (vi (nat_lit 0) (nat_lit 0)), (.ref (nat_lit 335)), (vi (nat_lit 110) (nat_lit 0)), (vi (nat_lit 0) (nat_lit 0)), (.ref (nat_lit 356)), (vi (nat_lit 112) (nat_lit 0)), (vi (nat_lit 0) (nat_lit 0)), (.ref (nat_lit 363)), (vi (nat_lit 114) (nat_lit 0)), (vi (nat_lit 0) (nat_lit 0)), (.ref (nat_lit 370)), (vi (nat_lit 116) (nat_lit 0)), (vi (nat_lit 0) (nat_lit 0)), (.ref (nat_lit 377)), (vi (nat_lit 120) (nat_lit 0)), (vi (nat_lit 0) (nat_lit 0)), (.ref (nat_lit 382)), (vi (nat_lit 122) (nat_lit 0)), (vi (nat_lit 0) (nat_lit 0)), (.ref (nat_lit 389)), (vi (nat_lit 124) (nat_lit 0)), (vi (nat_lit 0) (nat_lit 0)), (.ref (nat_lit 396)), (vi (nat_lit 128) (nat_lit 0)), (vi (nat_lit 0) (nat_lit 0)), (.ref (nat_lit 403)), (vi (nat_lit 130) (nat_lit 0)), (vi (nat_lit 0) (nat_lit 0)), (.ref (nat_lit 410)), (vi (nat_lit 132) (nat_lit 0)), (vi (nat_lit 0) (nat_lit 0)), (.ref (nat_lit 417)), (vi (nat_lit 135) (nat_lit 0)), (vi (nat_lit 0) (nat_lit 0)), (.ref (nat_lit 424)), (vi (nat_lit 146) (nat_lit 0)), (vi (nat_lit 0) (nat_lit 0)), (.ref (nat_lit 431)), (vi (nat_lit 148) (nat_lit 0)), (vi (nat_lit 0) (nat_lit 0)), (.ref (nat_lit 438)), (vi (nat_lit 153) (nat_lit 0)), (vi (nat_lit 0) (nat_lit 0)), (.ref (nat_lit 445)), (vi (nat_lit 155) (nat_lit 0)), (vi (nat_lit 0) (nat_lit 0)), (.ref (nat_lit 452)), (vi (nat_lit 163) (nat_lit 0)), (vi (nat_lit 0) (nat_lit 0)), (.ref (nat_lit 459)), (vi (nat_lit 216) (nat_lit 0)), (vi (nat_lit 0) (nat_lit 0)), (.ref (nat_lit 520)), (vi (nat_lit 218) (nat_lit 0)), (vi (nat_lit 0) (nat_lit 0)), (.ref (nat_lit 527)), (vi (nat_lit 224) (nat_lit 0)), (vi (nat_lit 0) (nat_lit 0)), (.ref (nat_lit 532)), (vi (nat_lit 230) (nat_lit 0)), (vi (nat_lit 0) (nat_lit 0)), (.ref (nat_lit 538)), (vi (nat_lit 240) (nat_lit 0)), (vi (nat_lit 0) (nat_lit 0)), (.ref (nat_lit 545)), (vi (nat_lit 245) (nat_lit 0)), (vi (nat_lit 0) (nat_lit 0)), (.ref (nat_lit 552)), (vi (nat_lit 249) (nat_lit 0)), (vi (nat_lit 0) (nat_lit 0)), (.ref (nat_lit 559)), (vi (nat_lit 254) (nat_lit 0)), (vi (nat_lit 0) (nat_lit 0)), (.ref (nat_lit 566)), (vi (nat_lit 260) (nat_lit 0)), (vi (nat_lit 0) (nat_lit 0)), (.ref (nat_lit 572)), (vi (nat_lit 273) (nat_lit 0)), (vi (nat_lit 0) (nat_lit 0)), (.ref (nat_lit 579)), (vi (nat_lit 275) (nat_lit 0)), (vi (nat_lit 0) (nat_lit 0)), (.ref (nat_lit 586)), (vi (nat_lit 303) (nat_lit 0)), (vi (nat_lit 0) (nat_lit 0)), (.ref (nat_lit 593)), (vi (nat_lit 308) (nat_lit 0)), (vi (nat_lit 0) (nat_lit 0)), (.ref (nat_lit 600)), (vi (nat_lit 315) (nat_lit 0)), (vi (nat_lit 0) (nat_lit 0)), (.ref (nat_lit 607)), (vi (nat_lit 324) (nat_lit 0)), (vi (nat_lit 0) (nat_lit 0)), (.ref (nat_lit 614)), (vi (nat_lit 336) (nat_lit 0)), (vi (nat_lit 0) (nat_lit 0)), (.ref (nat_lit 621)), (vi (nat_lit 339) (nat_lit 0)), (vi (nat_lit 0) (nat_lit 0)), (.ref (nat_lit 628)), (vi (nat_lit 349) (nat_lit 0)), (vi (nat_lit 0) (nat_lit 0)), (.ref (nat_lit 649)), (vi (nat_lit 653) (nat_lit 0)), (vi (nat_lit 0) (nat_lit 0)), (.ref (nat_lit 859)), (vi (nat_lit 656) (nat_lit 0)), (vi (nat_lit 0) (nat_lit 0)), (.ref (nat_lit 866)), (vi (nat_lit 660) (nat_lit 0)), (vi (nat_lit 0) (nat_lit 0)), (.ref (nat_lit 871)), (vi (nat_lit 676) (nat_lit 0)), (vi (nat_lit 0) (nat_lit 0)), (.ref (nat_lit 878)), (vi (nat_lit 681) (nat_lit 0)), (vi (nat_lit 0) (nat_lit 0)), (.ref (nat_lit 883)), (vi (nat_lit 687) (nat_lit 0)), (vi (nat_lit 0) (nat_lit 0)), (.ref (nat_lit 890)), (vi (nat_lit 690) (nat_lit 0)), (vi (nat_lit 0) (nat_lit 0)), (.ref (nat_lit 895)), (vi (nat_lit 702) (nat_lit 0)), (vi (nat_lit 0) (nat_lit 0)), (.ref (nat_lit 902)), (vi (nat_lit 706) (nat_lit 0)), (vi (nat_lit 0) (nat_lit 0)), (.ref (nat_lit 909)), (vi (nat_lit 715) (nat_lit 0)), (vi (nat_lit 0) (nat_lit 0)), (.ref (nat_lit 916)), (vi (nat_lit 721) (nat_lit 0)), (vi (nat_lit 0) (nat_lit 0)), (.ref (nat_lit 923)), (vi (nat_lit 724) (nat_lit 0)), (vi (nat_lit 0) (nat_lit 0)), (.ref (nat_lit 930)), (vi (nat_lit 726) (nat_lit 0)), (vi (nat_lit 0) (nat_lit 0)), (.ref (nat_lit 937)), (vi (nat_lit 729) (nat_lit 0)), (vi (nat_lit 0) (nat_lit 0)), (.ref (nat_lit 944)), (vi (nat_lit 732) (nat_lit 0)), (vi (nat_lit 0) (nat_lit 0)), (.ref (nat_lit 951)), (vi (nat_lit 735) (nat_lit 0)), (vi (nat_lit 0) (nat_lit 0)), (.ref (nat_lit 956))]
noncomputable def es31 : List Value := [(.ref (nat_lit 51)), (.ref (nat_lit 70)), (.ref (nat_lit 89)), (.ref (nat_lit 108)), (.ref (nat_lit 127))]
noncomputable def o0 (P : Params) : Obj := ⟨(.type "dict"), .none, (.dict ⟨[en P (u (nat_lit 6872323076851130207)) (nat_lit 1) (vs (u (nat_lit 8317701510555858274)) (nat_lit 160)), en P (u (nat_lit 26845003462762335)) (nat_lit 2) (.builtin "builtins.__doc__:str#\x6fpaque"), en P (u (nat_lit 115298448249767165785300831)) (nat_lit 3) (.builtin "builtins.__package__:str#\x6fpaque"), en P (u (nat_lit 450385499664681318244191)) (nat_lit 4) (.builtin "builtins.__loader__:shared#\x6fpaque"), en P (u (nat_lit 6872320843720122207)) (nat_lit 5) (.builtin "builtins.__spec__#\x6fpaque"), en P (u (nat_lit 495204177420398456438348681398345567)) (nat_lit 6) (.builtin "__build_class__"), en P (u (nat_lit 450385647451203110002527)) (nat_lit 7) (.builtin "__import__"), en P (u (nat_lit 7561825)) (nat_lit 8) (.builtin "abs"), en P (u (nat_lit 7105633)) (nat_lit 9) (.builtin "all"), en P (u (nat_lit 7958113)) (nat_lit 10) (.builtin "any"), en P (u (nat_lit 452739691361)) (nat_lit 11) (.builtin "ascii"), en P (u (nat_lit 7235938)) (nat_lit 12) (.builtin "bin"), en P (u (nat_lit 549831251275689790632546)) (nat_lit 13) (.builtin "breakpoint"), en P (u (nat_lit 7308324465885864291)) (nat_lit 14) (.builtin "callable"), en P (u (nat_lit 7497827)) (nat_lit 15) (.builtin "chr"), en P (u (nat_lit 28548172761362275)) (nat_lit 16) (.builtin "compile"), en P (u (nat_lit 32216190544536932)) (nat_lit 17) (.builtin "delattr"), en P (u (nat_lit 7498084)) (nat_lit 18) (.builtin "dir"), en P (u (nat_lit 110429740624228)) (nat_lit 19) (.builtin "divmod"), en P (u (nat_lit 1818326629)) (nat_lit 20) (.builtin "eval"), en P (u (nat_lit 1667594341)) (nat_lit 21) (.builtin "exec"), en P (u (nat_lit 127961796865894)) (nat_lit 22) (.builtin "format"), en P (u (nat_lit 32216190545061223)) (nat_lit 23) (.builtin "getattr"), en P (u (nat_lit 32488787840822375)) (nat_lit 24) (.builtin "globals"), en P (u (nat_lit 32216190544994664)) (nat_lit 25) (.builtin "hasattr"), en P (u (nat_lit 1752392040)) (nat_lit 26) (.builtin "hash"), en P (u (nat_lit 7890280)) (nat_lit 27) (.builtin "hex"), en P (u (nat_lit 25705)) (nat_lit 28) (.builtin "id"), en P (u (nat_lit 500186508905)) (nat_lit 29) (.builtin "input"), en P (u (nat_lit 478793196199587447665513)) (nat_lit 30) (.builtin "isinstance"), en P (u (nat_lit 545200541193679490216809)) (nat_lit 31) (.builtin "issubclass"), en P (u (nat_lit 1919251561)) (nat_lit 32) (.builtin "iter"), en P (u (nat_lit 491328399713)) (nat_lit 33) (.builtin "aiter"), en P (u (nat_lit 7234924)) (nat_lit 34) (.builtin "len"), en P (u (nat_lit 126909327568748)) (nat_lit 35) (.builtin "locals"), en P (u (nat_lit 7889261)) (nat_lit 36) (.builtin "max"), en P (u (nat_lit 7235949)) (nat_lit 37) (.builtin "min"), en P (u (nat_lit 1954047342)) (nat_lit 38) (.builtin "next"), en P (u (nat_lit 500236119649)) (nat_lit 39) (.builtin "anext"), en P (u (nat_lit 7627631)) (nat_lit 40) (.builtin "oct"), en P (u (nat_lit 6582895)) (nat_lit 41) (.builtin "ord"), en P (u (nat_lit 7827312)) (nat_lit 42) (.builtin "pow"), en P (u (nat_lit 500068610672)) (nat_lit 43) (.builtin "print"), en P (u (nat_lit 1919968626)) (nat_lit 44) (.builtin "repr"), en P (u (nat_lit 431349919602)) (nat_lit 45) (.builtin "round"), en P (u (nat_lit 32216190545061235)) (nat_lit 46) (.builtin "setattr"), en P (u (nat_lit 110386908131187)) (nat_lit 47) (.builtin "sorted"), en P (u (nat_lit 7173491)) (nat_lit 48) (.builtin "sum"), en P (u (nat_lit 1936875894)) (nat_lit 49) (.builtin "vars"), en P (u (nat_lit 1701736270)) (nat_lit 50) .none, en P (u (nat_lit 8316305113558576197)) (nat_lit 51) .ellipsis, en P (u (nat_lit 2036279038501064192342632869162830)) (nat_lit 52) .notImplemented, en P (u (nat_lit 435728179526)) (nat_lit 53) (.bool false), en P (u (nat_lit 1702195796)) (nat_lit 54) (.bool true), en P (u (nat_lit 1819242338)) (nat_lit 55) (.type "bool"), en P (u (nat_lit 563832332007886082106733)) (nat_lit 56) (.type "memoryview"), en P (u (nat_lit 2239077833450519296354)) (nat_lit 57) (.type "bytearray"), en P (u (nat_lit 495623371106)) (nat_lit 58) (.type "bytes"), en P (u (nat_lit 121418691489675337554553955)) (nat_lit 59) (.type "classmethod"), en P (u (nat_lit 33888513622372195)) (nat_lit 60) (.type "complex"), en P (u (nat_lit 1952672100)) (nat_lit 61) (.type "dict"), en P (u (nat_lit 1871507261205758963301)) (nat_lit 62) (.type "enumerate"), en P (u (nat_lit 125780070525286)) (nat_lit 63) (.type "filter"), en P (u (nat_lit 499850898534)) (nat_lit 64) (.type "float"), en P (u (nat_lit 2147132620552585310822)) (nat_lit 65) (.type "frozenset"), en P (u (nat_lit 8751745755891331696)) (nat_lit 66) (.type "property"), en P (u (nat_lit 7630441)) (nat_lit 67) (.type "int"), en P (u (nat_lit 1953720684)) (nat_lit 68) (.type "list"), en P (u (nat_lit 7364973)) (nat_lit 69) (.type "map"), en P (u (nat_lit 127970252055151)) (nat_lit 70) (.type "object"), en P (u (nat_lit 435526984050)) (nat_lit 71) (.type "range"), en P (u (nat_lit 7234315311606293874)) (nat_lit 72) (.type "reversed"), en P (u (nat_lit 7628147)) (nat_lit 73) (.type "set"), en P (u (nat_lit 435459550323)) (nat_lit 74) (.type "slice"), en P (u (nat_lit 31083185021356868779148145779)) (nat_lit 75) (.type "staticmethod"), en P (u (nat_lit 7500915)) (nat_lit 76) (.type "str"), en P (u (nat_lit 491328140659)) (nat_lit 77) (.type "super"), en P (u (nat_lit 435611006324)) (nat_lit 78) (.type "tuple"), en P (u (nat_lit 1701869940)) (nat_lit 79) (.type "type"), en P (u (nat_lit 7367034)) (nat_lit 80) (.type "zip"), en P (u (nat_lit 1759315279424080076639)) (nat_lit 81) (.bool true), en P (u (nat_lit 8749578199738159138375919165762)) (nat_lit 82) (.type "BaseException"), en P (u (nat_lit 9796537198965072083338340307652078449418562)) (nat_lit 83) (.type "BaseExceptionGroup"), en P (u (nat_lit 2037169923944901474373)) (nat_lit 84) (.type "Exception"), en P (u (nat_lit 9223108176738505442156037956935)) (nat_lit 85) (.type "GeneratorExit"), en P (u (nat_lit 39622237918347324999466976273207085589835)) (nat_lit 86) (.type "KeyboardInterrupt"), en P (u (nat_lit 549740086593958804945235)) (nat_lit 87) (.type "SystemExit"), en P (u (nat_lit 594182256714678771967929648937529921)) (nat_lit 88) (.type "ArithmeticError"), en P (u (nat_lit 2321024440291917296450389578838849)) (nat_lit 89) (.type "AssertionError"), en P (u (nat_lit 2321024440291751639399566457205825)) (nat_lit 90) (.type "AttributeError"), en P (u (nat_lit 138343837278603932976182594)) (nat_lit 91) (.type "BufferError"), en P (u (nat_lit 8245935277852741445)) (nat_lit 92) (.type "EOFError"), en P (u (nat_lit 138343837278606187985661257)) (nat_lit 93) (.type "ImportError"), en P (u (nat_lit 138343837278601802756878156)) (nat_lit 94) (.type "LookupError"), en P (u (nat_lit 138343837278611685543601485)) (nat_lit 95) (.type "MemoryError"), en P (u (nat_lit 2110959431130823876942)) (nat_lit 96) (.type "NameError"), en P (u (nat_lit 32210684679115599)) (nat_lit 97) (.type "OSError"), en P (u (nat_lit 2321024440291750412453479946020178)) (nat_lit 98) (.type "ReferenceError"), en P (u (nat_lit 35416022343318956476417865042)) (nat_lit 99) (.type "RuntimeError"), en P (u (nat_lit 9620262968444301447428515474173218182362195)) (nat_lit 100) (.type "StopAsyncIteration"), en P (u (nat_lit 8749578199462395284562040026195)) (nat_lit 101) (.type "StopIteration"), en P (u (nat_lit 138343837278610513101486419)) (nat_lit 102) (.type "SyntaxError"), en P (u (nat_lit 138343837278598435653777747)) (nat_lit 103) (.type "SystemError"), en P (u (nat_lit 2110959431130824079700)) (nat_lit 104) (.type "TypeError"), en P (u (nat_lit 540405614369491047440726)) (nat_lit 105) (.type "ValueError"), en P (u (nat_lit 29113321704808791)) (nat_lit 106) (.type "Warning"), en P (u (nat_lit 9968724064270964540856997013236747051428934)) (nat_lit 107) (.type "FloatingPointError"), en P (u (nat_lit 9066501719890950460844080985679)) (nat_lit 108) (.type "OverflowError"), en P (u (nat_lit 38940328376056599536665128759786751550810)) (nat_lit 109) (.type "ZeroDivisionError"), en P (u (nat_lit 32010435737620665654867949890)) (nat_lit 110) (.type "BytesWarning"), en P (u (nat_lit 9010136653744727375864923551200571661772100)) (nat_lit 111) (.type "DeprecationWarning"), en P (u (nat_lit 537045994624181232893331009056239173)) (nat_lit 112) (.type "EncodingWarning"), en P (u (nat_lit 8194671548830890392308883420486)) (nat_lit 113) (.type "FutureWarning"), en P (u (nat_lit 8194671548830890408801456909641)) (nat_lit 114) (.type "ImportWarning"), en P (u (nat_lit 649248769221792031245244240342701770466707336591827392161104)) (nat_lit 115) (.type "PendingDeprecationWarning"), en P (u (nat_lit 537045994624181232746129564856706386)) (nat_lit 116) (.type "ResourceWarning"), en P (u (nat_lit 2097835916500707940425525057451346)) (nat_lit 117) (.type "RuntimeWarning"), en P (u (nat_lit 8194671548830890413126572734803)) (nat_lit 118) (.type "SyntaxWarning"), en P (u (nat_lit 2097835916500707940415654937062997)) (nat_lit 119) (.type "UnicodeWarning"), en P (u (nat_lit 125040764600080725197550421)) (nat_lit 120) (.type "UserWarning"), en P (u (nat_lit 594182256714583733408242064178506818)) (nat_lit 121) (.type "BlockingIOError"), en P (u (nat_lit 38940328376058151778233331299303058663491)) (nat_lit 122) (.type "ChildProcessError"), en P (u (nat_lit 594182256714730827891283239424126787)) (nat_lit 123) (.type "ConnectionError"), en P (u (nat_lit 594182256714754532674920623987517766)) (nat_lit 124) (.type "FileExistsError"), en P (u (nat_lit 38940328376053503534233183940509803768134)) (nat_lit 125) (.type "FileNotFoundError"), en P (u (nat_lit 152110657718958955660938569599291780681)) (nat_lit 126) (.type "InterruptedError"), en P (u (nat_lit 38940328376060007526902830920136791257929)) (nat_lit 127) (.type "IsADirectoryError"), en P (u (nat_lit 9968724064271361926887124715555018562105166)) (nat_lit 128) (.type "NotADirectoryError"), en P (u (nat_lit 594182256714730827891019373796812112)) (nat_lit 129) (.type "PermissionError"), en P (u (nat_lit 9968724064270649797020430249460663879430736)) (nat_lit 130) (.type "ProcessLookupError"), en P (u (nat_lit 35416022343323187422679624020)) (nat_lit 131) (.type "TimeoutError"), en P (u (nat_lit 152110657718971091940167962835145748041)) (nat_lit 132) (.type "IndentationError"), en P (u (nat_lit 167247436870671891118272144024608043798068166805855)) (nat_lit 133) (.type "_IncompleteInputError"), en P (u (nat_lit 540405614369572382862921)) (nat_lit 134) (.type "IndexError"), en P (u (nat_lit 8245935277856089419)) (nat_lit 135) (.type "KeyError"), en P (u (nat_lit 2551993360453042407619505942725250499951750989)) (nat_lit 136) (.type "ModuleNotFoundError"), en P (u (nat_lit 2551993360453041694255495642226893310299238222)) (nat_lit 137) (.type "NotImplementedError"), en P (u (nat_lit 10960728022755828331644337392568825919269281531654601040)) (nat_lit 138) (.type "PythonFinalizationError"), en P (u (nat_lit 2321024440291917296449290334594386)) (nat_lit 139) (.type "RecursionError"), en P (u (nat_lit 38940328376055963613273930860259476401749)) (nat_lit 140) (.type "UnboundLocalError"), en P (u (nat_lit 35416022343318946606297476693)) (nat_lit 141) (.type "UnicodeError"), en P (u (nat_lit 594182256714688345029560481742811714)) (nat_lit 142) (.type "BrokenPipeError"), en P (u (nat_lit 42815343838886538361612328048892047870070641793068867)) (nat_lit 143) (.type "ConnectionAbortedError"), en P (u (nat_lit 42815343838886538356480166314712315271257547466501955)) (nat_lit 144) (.type "ConnectionRefusedError"), en P (u (nat_lit 653310300276061750397106949365530920061061984067)) (nat_lit 145) (.type "ConnectionResetError"), en P (u (nat_lit 8245935277854581076)) (nat_lit 146) (.type "TabError"), en P (u (nat_lit 9968724064269773030766456211686458732932693)) (nat_lit 147) (.type "UnicodeDecodeError"), en P (u (nat_lit 9968724064269773030766622304440716156825173)) (nat_lit 148) (.type "UnicodeEncodeError"), en P (u (nat_lit 167247436870651947201656920533141258161878494441045)) (nat_lit 149) (.type "UnicodeTranslateError"), en P (u (nat_lit 2280934061614114810558580865071173)) (nat_lit 150) (.type "ExceptionGroup"), en P (u (nat_lit 152110657718978340698431441981832326725)) (nat_lit 151) (.type "OSError"), en P (u (nat_lit 32210684679114569)) (nat_lit 152) (.type "OSError"), en P (u (nat_lit 1852141679)) (nat_lit 153) (.builtin "open"), en P (u (nat_lit 1953068401)) (nat_lit 154) (.builtin "builtins.quit#\x6fpaque"), en P (u (nat_lit 1953069157)) (nat_lit 155) (.builtin "builtins.exit#\x6fpaque"), en P (u (nat_lit 2147345410193238290275)) (nat_lit 156) (.builtin "builtins.copyright#\x6fpaque"), en P (u (nat_lit 32497618326483555)) (nat_lit 157) (.builtin "builtins.credits#\x6fpaque"), en P (u (nat_lit 28555890632386924)) (nat_lit 158) (.builtin "builtins.license#\x6fpaque"), en P (u (nat_lit 1886152040)) (nat_lit 159) (.builtin "builtins.help#\x6fpaque")]⟩ (nat_lit 159)), ⟨[]⟩⟩
noncomputable def o1 (P : Params) : Obj := ⟨(.type "dict"), .none, (.dict ⟨[en P (u (nat_lit 8317701510555858274)) (nat_lit 162) (.ref (nat_lit 4)), en P (u (nat_lit 6872332955275845471)) (nat_lit 163) (.ref (nat_lit 5))]⟩ (nat_lit 2)), ⟨[]⟩⟩
noncomputable def o2 (P : Params) : Obj := ⟨.none, .none, (.dict ⟨(es2 P)⟩ (nat_lit 2)), ⟨[]⟩⟩
noncomputable def o3 (P : Params) : Obj := ⟨(.type "dict"), .none, (.dict ⟨(es3 P)⟩ (nat_lit 76)), ⟨[]⟩⟩
noncomputable def o4 : Obj := ⟨(.type "module"), (.some (nat_lit 0)), .plain, ⟨[]⟩⟩
noncomputable def o5 : Obj := ⟨(.type "module"), (.some (nat_lit 3)), .plain, ⟨[]⟩⟩
noncomputable def o6 : Obj := ⟨(.type "dict"), .none, (.dict ⟨[]⟩ (nat_lit 0)), ⟨[]⟩⟩
noncomputable def o7 : Obj := ⟨(.type "tuple"), .none, (.seq ⟨[]⟩ (nat_lit 0)), ⟨[]⟩⟩
noncomputable def o8 : Obj := ⟨.none, .none, (.fields ⟨[]⟩), ⟨[]⟩⟩
noncomputable def o9 : Obj := ⟨(.type "code"), .none, (.fields ⟨[(vs (u (nat_lit 4496119054451305788)) (nat_lit 176)), (vs (u (nat_lit 4496119054451305788)) (nat_lit 177)), (vs (u (nat_lit 9621326145873605890393926034223)) (nat_lit 178)), (vi (nat_lit 1) (nat_lit 0)), (vi (nat_lit 0) (nat_lit 0)), (vi (nat_lit 0) (nat_lit 0)), (vi (nat_lit 0) (nat_lit 0)), (vi (nat_lit 0) (nat_lit 0)), (.ref (nat_lit 7)), (.bool false), (vi (nat_lit 175) (nat_lit 0)), (.ref (nat_lit 8)), .none, .none, .none, .none, (vi (nat_lit 179) (nat_lit 0)), (vi (nat_lit 1) (nat_lit 0)), (vs (u (nat_lit 9621326145873605890393926034223)) (nat_lit 180))]⟩), ⟨[]⟩⟩
noncomputable def o10 : Obj := ⟨(.type "frame"), .none, .plain, ⟨[(.some (.ref (nat_lit 9))), (.some (.ref (nat_lit 3))), (.some (.ref (nat_lit 3))), .none, (.some (vs (u (nat_lit 6872332955275845471)) (nat_lit 164))), .none, (.some (.ref (nat_lit 0)))]⟩⟩
noncomputable def o12 : Obj := ⟨.none, .none, (.fields ⟨es12⟩), ⟨[]⟩⟩
noncomputable def o13 : Obj := ⟨(.type "code"), .none, (.fields ⟨[(vs (u (nat_lit 4496119054451305788)) (nat_lit 182)), (vs (u (nat_lit 4496119054451305788)) (nat_lit 183)), (vs (u (nat_lit 9621326145873605890393926034223)) (nat_lit 184)), (vi (nat_lit 1) (nat_lit 0)), (vi (nat_lit 0) (nat_lit 0)), (vi (nat_lit 0) (nat_lit 0)), (vi (nat_lit 0) (nat_lit 0)), (vi (nat_lit 0) (nat_lit 0)), (.ref (nat_lit 11)), (.bool false), (vi (nat_lit 181) (nat_lit 0)), (.ref (nat_lit 12)), .none, .none, .none, .none, (vi (nat_lit 185) (nat_lit 0)), (vi (nat_lit 1) (nat_lit 0)), (vs (u (nat_lit 9621326145873605890393926034223)) (nat_lit 186))]⟩), ⟨[]⟩⟩
noncomputable def o14 : Obj := ⟨(.type "frame"), .none, .plain, ⟨[(.some (.ref (nat_lit 13))), (.some (.ref (nat_lit 3))), (.some (.ref (nat_lit 3))), .none, (.some (vs (u (nat_lit 6872332955275845471)) (nat_lit 164))), .none, (.some (.ref (nat_lit 0)))]⟩⟩
noncomputable def o17 : Obj := ⟨(.type "tuple"), .none, (.seq ⟨[(vs (u (nat_lit 107)) (nat_lit 190))]⟩ (nat_lit 0)), ⟨[]⟩⟩
noncomputable def o19 : Obj := ⟨.none, .none, (.func (fO (st1 (nat_lit 0)) false (u (nat_lit 465674794847)) (nat_lit 0) .none .none .none .none .none .none .none (nat_lit 0))), ⟨[]⟩⟩
noncomputable def o20 : Obj := ⟨(.type "code"), .none, (.fields ⟨[(vs (u (nat_lit 465674794847)) (nat_lit 187)), (vs (u (nat_lit 465674794847)) (nat_lit 188)), (vs (u (nat_lit 9621326145873605890393926034223)) (nat_lit 189)), (vi (nat_lit 1) (nat_lit 0)), (vi (nat_lit 1) (nat_lit 0)), (vi (nat_lit 0) (nat_lit 0)), (vi (nat_lit 0) (nat_lit 0)), (vi (nat_lit 3) (nat_lit 0)), (.ref (nat_lit 15)), (.bool true), (vi (nat_lit 181) (nat_lit 0)), (.ref (nat_lit 16)), .none, (.ref (nat_lit 17)), (.ref (nat_lit 18)), (.ref (nat_lit 19)), (vi (nat_lit 191) (nat_lit 0)), (vi (nat_lit 1) (nat_lit 0)), (vs (u (nat_lit 9621326145873605890393926034223)) (nat_lit 192))]⟩), ⟨[]⟩⟩
noncomputable def o21 : Obj := ⟨(.type "function"), .none, (.func (fO (st1 (nat_lit 0)) false (u (nat_lit 465674794847)) (nat_lit 3) .none .none .none (vs (u (nat_lit 6872332955275845471)) (nat_lit 164)) .none (.ref (nat_lit 20)) .none (nat_lit 0))), ⟨[]⟩⟩
noncomputable def o22 : Obj := ⟨(.type "tuple"), .none, (.seq ⟨[(.type "Exception")]⟩ (nat_lit 0)), ⟨[]⟩⟩
noncomputable def o23 : Obj := ⟨(.type "builtin_function_or_method"), .none, (.fields ⟨[(.builtin "type.__prepare__"), (.type "type")]⟩), ⟨[]⟩⟩
noncomputable def o24 (P : Params) : Obj := ⟨(.type "dict"), .none, (.dict ⟨[en P (u (nat_lit 450384564904988244795231)) (nat_lit 203) (vs (u (nat_lit 39284582853636720492305858640467560981878)) (nat_lit 194)), en P (u (nat_lit 29516402862621713203914170207)) (nat_lit 205) (vs (u (nat_lit 2110959431130824470339)) (nat_lit 204)), en P (u (nat_lit 495203858965168609907421719000670047)) (nat_lit 207) (vi (nat_lit 5) (nat_lit 206)), en P (u (nat_lit 139387583093331537335747288891456728448373227741023)) (nat_lit 208) (.ref (nat_lit 29))]⟩ (nat_lit 4)), ⟨[]⟩⟩
noncomputable def o27 : Obj := ⟨(.type "code"), .none, (.fields ⟨[(vs (u (nat_lit 2110959431130824470339)) (nat_lit 198)), (vs (u (nat_lit 2110959431130824470339)) (nat_lit 199)), (vs (u (nat_lit 9621326145873605890393926034223)) (nat_lit 200)), (vi (nat_lit 5) (nat_lit 0)), (vi (nat_lit 0) (nat_lit 0)), (vi (nat_lit 0) (nat_lit 0)), (vi (nat_lit 0) (nat_lit 0)), (vi (nat_lit 0) (nat_lit 0)), (.ref (nat_lit 25)), (.bool false), (vi (nat_lit 181) (nat_lit 0)), (.ref (nat_lit 26)), .none, .none, .none, .none, (vi (nat_lit 201) (nat_lit 0)), (vi (nat_lit 5) (nat_lit 0)), (vs (u (nat_lit 9621326145873605890393926034223)) (nat_lit 202))]⟩), ⟨[]⟩⟩
noncomputable def o28 : Obj := ⟨(.type "frame"), .none, .plain, ⟨[(.some (.ref (nat_lit 27))), (.some (.ref (nat_lit 3))), (.some (.ref (nat_lit 24))), .none, (.some (vs (u (nat_lit 39284582853636720492305858640467560981878)) (nat_lit 194))), .none, (.some (.ref (nat_lit 0)))]⟩⟩
noncomputable def o30 (P : Params) : Obj := ⟨(.type "dict"), .none, (.dict ⟨[en P (u (nat_lit 450384564904988244795231)) (nat_lit 203) (vs (u (nat_lit 39284582853636720492305858640467560981878)) (nat_lit 194)), en P (u (nat_lit 495203858965168609907421719000670047)) (nat_lit 207) (vi (nat_lit 5) (nat_lit 206)), en P (u (nat_lit 139387583093331537335747288891456728448373227741023)) (nat_lit 208) (.ref (nat_lit 29)), en P (u (nat_lit 115298466557181117500710751)) (nat_lit 210) (.ref (nat_lit 32)), en P (u (nat_lit 26845003462762335)) (nat_lit 211) .none]⟩ (nat_lit 3)), ⟨[]⟩⟩
noncomputable def o31 : Obj := ⟨(.type "type"), .none, (.cls ⟨(u (nat_lit 2110959431130824470339)), [(.type "Exception")], [(.ref (nat_lit 31)), (.type "Exception"), (.type "BaseException"), (.type "object")], (nat_lit 30), (u (nat_lit 2110959431130824470339)), true, [], es31, false, .none, false⟩), ⟨[(.some (.ref (nat_lit 22))), .none, (.some (vs (u (nat_lit 2110959431130824470339)) (nat_lit 196))), (.some (vs (u (nat_lit 2110959431130824470339)) (nat_lit 204))), (.some (.builtin "Exception.__new__")), (.some (.bool true))]⟩⟩
noncomputable def o32 : Obj := ⟨(.type "getset_descriptor"), .none, (.fields ⟨[(vs (u (nat_lit 115298466557181117500710751)) (nat_lit 209)), (.ref (nat_lit 31)), (.builtin "ExceptionGroup.__weakref__"), .none]⟩), ⟨[]⟩⟩
noncomputable def o33 : Obj := ⟨(.type "super"), .none, (.fields ⟨[(.ref (nat_lit 31)), (.ref (nat_lit 31)), (.ref (nat_lit 31))]⟩), ⟨[]⟩⟩
noncomputable def o34 : Obj := ⟨(.type "builtin_function_or_method"), .none, (.fields ⟨[(.builtin "object.__init_subclass__"), (.ref (nat_lit 31))]⟩), ⟨[]⟩⟩
noncomputable def o35 : Obj := ⟨(.type "tuple"), .none, (.seq ⟨[(.ref (nat_lit 31))]⟩ (nat_lit 0)), ⟨[]⟩⟩
noncomputable def o37 (P : Params) : Obj := ⟨(.type "dict"), .none, (.dict ⟨[en P (u (nat_lit 450384564904988244795231)) (nat_lit 223) (vs (u (nat_lit 39284582853636720492305858640467560981878)) (nat_lit 194)), en P (u (nat_lit 29516402862621713203914170207)) (nat_lit 225) (vs (u (nat_lit 30506446003529042)) (nat_lit 224)), en P (u (nat_lit 495203858965168609907421719000670047)) (nat_lit 227) (vi (nat_lit 7) (nat_lit 226)), en P (u (nat_lit 6872339552563453791)) (nat_lit 235) (.ref (nat_lit 48)), en P (u (nat_lit 139387583093331537335747288891456728448373227741023)) (nat_lit 237) (.ref (nat_lit 49))]⟩ (nat_lit 5)), ⟨[]⟩⟩
noncomputable def o39 : Obj := ⟨.none, .none, (.fields ⟨[(vi (nat_lit 9) (nat_lit 0)), (vi (nat_lit 4) (nat_lit 0)), (.ref (nat_lit 47))]⟩), ⟨[]⟩⟩
noncomputable def o40 : Obj := ⟨(.type "code"), .none, (.fields ⟨[(vs (u (nat_lit 30506446003529042)) (nat_lit 218)), (vs (u (nat_lit 30506446003529042)) (nat_lit 219)), (vs (u (nat_lit 9621326145873605890393926034223)) (nat_lit 220)), (vi (nat_lit 7) (nat_lit 0)), (vi (nat_lit 0) (nat_lit 0)), (vi (nat_lit 0) (nat_lit 0)), (vi (nat_lit 0) (nat_lit 0)), (vi (nat_lit 0) (nat_lit 0)), (.ref (nat_lit 38)), (.bool false), (vi (nat_lit 181) (nat_lit 0)), (.ref (nat_lit 39)), .none, .none, .none, .none, (vi (nat_lit 221) (nat_lit 0)), (vi (nat_lit 7) (nat_lit 0)), (vs (u (nat_lit 9621326145873605890393926034223)) (nat_lit 222))]⟩), ⟨[]⟩⟩
noncomputable def o41 : Obj := ⟨(.type "frame"), .none, .plain, ⟨[(.some (.ref (nat_lit 40))), (.some (.ref (nat_lit 3))), (.some (.ref (nat_lit 37))), .none, (.some (vs (u (nat_lit 39284582853636720492305858640467560981878)) (nat_lit 194))), .none, (.some (.ref (nat_lit 0)))]⟩⟩
noncomputable def o44 : Obj := ⟨(.type "tuple"), .none, (.seq ⟨[(vs (u (nat_lit 1718379891)) (nat_lit 231)), (vs (u (nat_lit 28542640894207341)) (nat_lit 232))]⟩ (nat_lit 0)), ⟨[]⟩⟩
noncomputable def o46 : Obj := ⟨.none, .none, (.func (fO (st2 (nat_lit 3) (nat_lit 0)) false (u (nat_lit 126772288913769642814105902094693590354)) (nat_lit 0) .none .none .none .none .none .none .none (nat_lit 0))), ⟨[]⟩⟩
noncomputable def o47 : Obj := ⟨(.type "code"), .none, (.fields ⟨[(vs (u (nat_lit 6872339552563453791)) (nat_lit 228)), (vs (u (nat_lit 126772288913769642814105902094693590354)) (nat_lit 229)), (vs (u (nat_lit 9621326145873605890393926034223)) (nat_lit 230)), (vi (nat_lit 9) (nat_lit 0)), (vi (nat_lit 2) (nat_lit 0)), (vi (nat_lit 0) (nat_lit 0)), (vi (nat_lit 0) (nat_lit 0)), (vi (nat_lit 3) (nat_lit 0)), (.ref (nat_lit 42)), (.bool true), (vi (nat_lit 181) (nat_lit 0)), (.ref (nat_lit 43)), .none, (.ref (nat_lit 44)), (.ref (nat_lit 45)), (.ref (nat_lit 46)), (vi (nat_lit 233) (nat_lit 0)), (vi (nat_lit 9) (nat_lit 0)), (vs (u (nat_lit 9621326145873605890393926034223)) (nat_lit 234))]⟩), ⟨[]⟩⟩
noncomputable def o48 : Obj := ⟨(.type "function"), .none, (.func (fO (st2 (nat_lit 3) (nat_lit 0)) false (u (nat_lit 126772288913769642814105902094693590354)) (nat_lit 3) .none .none .none (vs (u (nat_lit 39284582853636720492305858640467560981878)) (nat_lit 194)) .none (.ref (nat_lit 47)) .none (nat_lit 0))), ⟨[]⟩⟩
noncomputable def o49 : Obj := ⟨(.type "tuple"), .none, (.seq ⟨[(vs (u (nat_lit 28542640894207341)) (nat_lit 236))]⟩ (nat_lit 0)), ⟨[]⟩⟩
noncomputable def o50 (P : Params) : Obj := ⟨(.type "dict"), .none, (.dict ⟨[en P (u (nat_lit 450384564904988244795231)) (nat_lit 223) (vs (u (nat_lit 39284582853636720492305858640467560981878)) (nat_lit 194)), en P (u (nat_lit 495203858965168609907421719000670047)) (nat_lit 227) (vi (nat_lit 7) (nat_lit 226)), en P (u (nat_lit 6872339552563453791)) (nat_lit 235) (.ref (nat_lit 48)), en P (u (nat_lit 139387583093331537335747288891456728448373227741023)) (nat_lit 237) (.ref (nat_lit 49)), en P (u (nat_lit 26845003462762335)) (nat_lit 238) .none]⟩ (nat_lit 2)), ⟨[]⟩⟩
noncomputable def o51 : Obj := ⟨(.type "type"), .none, (.cls ⟨(u (nat_lit 30506446003529042)), [(.ref (nat_lit 31))], [(.ref (nat_lit 51)), (.ref (nat_lit 31)), (.type "Exception"), (.type "BaseException"), (.type "object")], (nat_lit 50), (u (nat_lit 30506446003529042)), true, [], [], false, .none, false⟩), ⟨[(.some (.ref (nat_lit 35))), .none, (.some (vs (u (nat_lit 30506446003529042)) (nat_lit 216))), (.some (vs (u (nat_lit 30506446003529042)) (nat_lit 224))), (.some (.builtin "Exception.__new__")), (.some (.bool true))]⟩⟩
noncomputable def o52 : Obj := ⟨(.type "super"), .none, (.fields ⟨[(.ref (nat_lit 51)), (.ref (nat_lit 51)), (.ref (nat_lit 51))]⟩), ⟨[]⟩⟩
noncomputable def o53 : Obj := ⟨(.type "builtin_function_or_method"), .none, (.fields ⟨[(.builtin "object.__init_subclass__"), (.ref (nat_lit 51))]⟩), ⟨[]⟩⟩
noncomputable def o56 (P : Params) : Obj := ⟨(.type "dict"), .none, (.dict ⟨[en P (u (nat_lit 450384564904988244795231)) (nat_lit 248) (vs (u (nat_lit 39284582853636720492305858640467560981878)) (nat_lit 194)), en P (u (nat_lit 29516402862621713203914170207)) (nat_lit 250) (vs (u (nat_lit 125822987027794)) (nat_lit 249)), en P (u (nat_lit 495203858965168609907421719000670047)) (nat_lit 252) (vi (nat_lit 11) (nat_lit 251)), en P (u (nat_lit 6872339552563453791)) (nat_lit 262) (.ref (nat_lit 67)), en P (u (nat_lit 139387583093331537335747288891456728448373227741023)) (nat_lit 266) (.ref (nat_lit 68))]⟩ (nat_lit 5)), ⟨[]⟩⟩
noncomputable def o58 : Obj := ⟨.none, .none, (.fields ⟨[(vi (nat_lit 13) (nat_lit 0)), (vi (nat_lit 4) (nat_lit 0)), (.ref (nat_lit 66))]⟩), ⟨[]⟩⟩
noncomputable def o59 : Obj := ⟨(.type "code"), .none, (.fields ⟨[(vs (u (nat_lit 125822987027794)) (nat_lit 243)), (vs (u (nat_lit 125822987027794)) (nat_lit 244)), (vs (u (nat_lit 9621326145873605890393926034223)) (nat_lit 245)), (vi (nat_lit 11) (nat_lit 0)), (vi (nat_lit 0) (nat_lit 0)), (vi (nat_lit 0) (nat_lit 0)), (vi (nat_lit 0) (nat_lit 0)), (vi (nat_lit 0) (nat_lit 0)), (.ref (nat_lit 57)), (.bool false), (vi (nat_lit 181) (nat_lit 0)), (.ref (nat_lit 58)), .none, .none, .none, .none, (vi (nat_lit 246) (nat_lit 0)), (vi (nat_lit 11) (nat_lit 0)), (vs (u (nat_lit 9621326145873605890393926034223)) (nat_lit 247))]⟩), ⟨[]⟩⟩
noncomputable def o60 : Obj := ⟨(.type "frame"), .none, .plain, ⟨[(.some (.ref (nat_lit 59))), (.some (.ref (nat_lit 3))), (.some (.ref (nat_lit 56))), .none, (.some (vs (u (nat_lit 39284582853636720492305858640467560981878)) (nat_lit 194))), .none, (.some (.ref (nat_lit 0)))]⟩⟩
noncomputable def o63 : Obj := ⟨(.type "tuple"), .none, (.seq ⟨[(vs (u (nat_lit 1718379891)) (nat_lit 256)), (vs (u (nat_lit 28542640894207341)) (nat_lit 257)), (vs (u (nat_lit 1819042147)) (nat_lit 258)), (vs (u (nat_lit 2037169923914820644707)) (nat_lit 259))]⟩ (nat_lit 0)), ⟨[]⟩⟩
noncomputable def o65 : Obj := ⟨.none, .none, (.func (fO (st2 (nat_lit 4) (nat_lit 0)) false (u (nat_lit 495204253569412667242607837239723346)) (nat_lit 0) .none .none .none .none .none .none .none (nat_lit 0))), ⟨[]⟩⟩
noncomputable def o66 : Obj := ⟨(.type "code"), .none, (.fields ⟨[(vs (u (nat_lit 6872339552563453791)) (nat_lit 253)), (vs (u (nat_lit 495204253569412667242607837239723346)) (nat_lit 254)), (vs (u (nat_lit 9621326145873605890393926034223)) (nat_lit 255)), (vi (nat_lit 13) (nat_lit 0)), (vi (nat_lit 4) (nat_lit 0)), (vi (nat_lit 0) (nat_lit 0)), (vi (nat_lit 0) (nat_lit 0)), (vi (nat_lit 3) (nat_lit 0)), (.ref (nat_lit 61)), (.bool true), (vi (nat_lit 181) (nat_lit 0)), (.ref (nat_lit 62)), .none, (.ref (nat_lit 63)), (.ref (nat_lit 64)), (.ref (nat_lit 65)), (vi (nat_lit 260) (nat_lit 0)), (vi (nat_lit 13) (nat_lit 0)), (vs (u (nat_lit 9621326145873605890393926034223)) (nat_lit 261))]⟩), ⟨[]⟩⟩
noncomputable def o67 : Obj := ⟨(.type "function"), .none, (.func (fO (st2 (nat_lit 4) (nat_lit 0)) false (u (nat_lit 495204253569412667242607837239723346)) (nat_lit 3) .none .none .none (vs (u (nat_lit 39284582853636720492305858640467560981878)) (nat_lit 194)) .none (.ref (nat_lit 66)) .none (nat_lit 0))), ⟨[]⟩⟩
noncomputable def o68 : Obj := ⟨(.type "tuple"), .none, (.seq ⟨[(vs (u (nat_lit 1819042147)) (nat_lit 263)), (vs (u (nat_lit 2037169923914820644707)) (nat_lit 264)), (vs (u (nat_lit 28542640894207341)) (nat_lit 265))]⟩ (nat_lit 0)), ⟨[]⟩⟩
noncomputable def o69 (P : Params) : Obj := ⟨(.type "dict"), .none, (.dict ⟨[en P (u (nat_lit 450384564904988244795231)) (nat_lit 248) (vs (u (nat_lit 39284582853636720492305858640467560981878)) (nat_lit 194)), en P (u (nat_lit 495203858965168609907421719000670047)) (nat_lit 252) (vi (nat_lit 11) (nat_lit 251)), en P (u (nat_lit 6872339552563453791)) (nat_lit 262) (.ref (nat_lit 67)), en P (u (nat_lit 139387583093331537335747288891456728448373227741023)) (nat_lit 266) (.ref (nat_lit 68)), en P (u (nat_lit 26845003462762335)) (nat_lit 267) .none]⟩ (nat_lit 2)), ⟨[]⟩⟩
noncomputable def o70 : Obj := ⟨(.type "type"), .none, (.cls ⟨(u (nat_lit 125822987027794)), [(.ref (nat_lit 31))], [(.ref (nat_lit 70)), (.ref (nat_lit 31)), (.type "Exception"), (.type "BaseException"), (.type "object")], (nat_lit 69), (u (nat_lit 125822987027794)), true, [], [], false, .none, false⟩), ⟨[(.some (.ref (nat_lit 54))), .none, (.some (vs (u (nat_lit 125822987027794)) (nat_lit 241))), (.some (vs (u (nat_lit 125822987027794)) (nat_lit 249))), (.some (.builtin "Exception.__new__")), (.some (.bool true))]⟩⟩
noncomputable def o71 : Obj := ⟨(.type "super"), .none, (.fields ⟨[(.ref (nat_lit 70)), (.ref (nat_lit 70)), (.ref (nat_lit 70))]⟩), ⟨[]⟩⟩
noncomputable def o72 : Obj := ⟨(.type "builtin_function_or_method"), .none, (.fields ⟨[(.builtin "object.__init_subclass__"), (.ref (nat_lit 70))]⟩), ⟨[]⟩⟩
noncomputable def o75 (P : Params) : Obj := ⟨(.type "dict"), .none, (.dict ⟨[en P (u (nat_lit 450384564904988244795231)) (nat_lit 277) (vs (u (nat_lit 39284582853636720492305858640467560981878)) (nat_lit 194)), en P (u (nat_lit 29516402862621713203914170207)) (nat_lit 279) (vs (u (nat_lit 31071095449275572413736511820)) (nat_lit 278)), en P (u (nat_lit 495203858965168609907421719000670047)) (nat_lit 281) (vi (nat_lit 17) (nat_lit 280)), en P (u (nat_lit 6872339552563453791)) (nat_lit 289) (.ref (nat_lit 86)), en P (u (nat_lit 139387583093331537335747288891456728448373227741023)) (nat_lit 291) (.ref (nat_lit 87))]⟩ (nat_lit 5)), ⟨[]⟩⟩
noncomputable def o77 : Obj := ⟨.none, .none, (.fields ⟨[(vi (nat_lit 19) (nat_lit 0)), (vi (nat_lit 4) (nat_lit 0)), (.ref (nat_lit 85))]⟩), ⟨[]⟩⟩
noncomputable def o78 : Obj := ⟨(.type "code"), .none, (.fields ⟨[(vs (u (nat_lit 31071095449275572413736511820)) (nat_lit 272)), (vs (u (nat_lit 31071095449275572413736511820)) (nat_lit 273)), (vs (u (nat_lit 9621326145873605890393926034223)) (nat_lit 274)), (vi (nat_lit 17) (nat_lit 0)), (vi (nat_lit 0) (nat_lit 0)), (vi (nat_lit 0) (nat_lit 0)), (vi (nat_lit 0) (nat_lit 0)), (vi (nat_lit 0) (nat_lit 0)), (.ref (nat_lit 76)), (.bool false), (vi (nat_lit 181) (nat_lit 0)), (.ref (nat_lit 77)), .none, .none, .none, .none, (vi (nat_lit 275) (nat_lit 0)), (vi (nat_lit 17) (nat_lit 0)), (vs (u (nat_lit 9621326145873605890393926034223)) (nat_lit 276))]⟩), ⟨[]⟩⟩
noncomputable def o79 : Obj := ⟨(.type "frame"), .none, .plain, ⟨[(.some (.ref (nat_lit 78))), (.some (.ref (nat_lit 3))), (.some (.ref (nat_lit 75))), .none, (.some (vs (u (nat_lit 39284582853636720492305858640467560981878)) (nat_lit 194))), .none, (.some (.ref (nat_lit 0)))]⟩⟩
noncomputable def o82 : Obj := ⟨(.type "tuple"), .none, (.seq ⟨[(vs (u (nat_lit 1718379891)) (nat_lit 285)), (vs (u (nat_lit 1952540791)) (nat_lit 286))]⟩ (nat_lit 0)), ⟨[]⟩⟩
noncomputable def o84 : Obj := ⟨.none, .none, (.func (fO (st2 (nat_lit 5) (nat_lit 0)) false (u (nat_lit 139387605740468218870829210689531712327684098713932)) (nat_lit 0) .none .none .none .none .none .none .none (nat_lit 0))), ⟨[]⟩⟩
noncomputable def o85 : Obj := ⟨(.type "code"), .none, (.fields ⟨[(vs (u (nat_lit 6872339552563453791)) (nat_lit 282)), (vs (u (nat_lit 139387605740468218870829210689531712327684098713932)) (nat_lit 283)), (vs (u (nat_lit 9621326145873605890393926034223)) (nat_lit 284)), (vi (nat_lit 19) (nat_lit 0)), (vi (nat_lit 2) (nat_lit 0)), (vi (nat_lit 0) (nat_lit 0)), (vi (nat_lit 0) (nat_lit 0)), (vi (nat_lit 3) (nat_lit 0)), (.ref (nat_lit 80)), (.bool true), (vi (nat_lit 181) (nat_lit 0)), (.ref (nat_lit 81)), .none, (.ref (nat_lit 82)), (.ref (nat_lit 83)), (.ref (nat_lit 84)), (vi (nat_lit 287) (nat_lit 0)), (vi (nat_lit 19) (nat_lit 0)), (vs (u (nat_lit 9621326145873605890393926034223)) (nat_lit 288))]⟩), ⟨[]⟩⟩
noncomputable def o86 : Obj := ⟨(.type "function"), .none, (.func (fO (st2 (nat_lit 5) (nat_lit 0)) false (u (nat_lit 139387605740468218870829210689531712327684098713932)) (nat_lit 3) .none .none .none (vs (u (nat_lit 39284582853636720492305858640467560981878)) (nat_lit 194)) .none (.ref (nat_lit 85)) .none (nat_lit 0))), ⟨[]⟩⟩
noncomputable def o87 : Obj := ⟨(.type "tuple"), .none, (.seq ⟨[(vs (u (nat_lit 1952540791)) (nat_lit 290))]⟩ (nat_lit 0)), ⟨[]⟩⟩
noncomputable def o88 (P : Params) : Obj := ⟨(.type "dict"), .none, (.dict ⟨[en P (u (nat_lit 450384564904988244795231)) (nat_lit 277) (vs (u (nat_lit 39284582853636720492305858640467560981878)) (nat_lit 194)), en P (u (nat_lit 495203858965168609907421719000670047)) (nat_lit 281) (vi (nat_lit 17) (nat_lit 280)), en P (u (nat_lit 6872339552563453791)) (nat_lit 289) (.ref (nat_lit 86)), en P (u (nat_lit 139387583093331537335747288891456728448373227741023)) (nat_lit 291) (.ref (nat_lit 87)), en P (u (nat_lit 26845003462762335)) (nat_lit 292) .none]⟩ (nat_lit 2)), ⟨[]⟩⟩
noncomputable def o89 : Obj := ⟨(.type "type"), .none, (.cls ⟨(u (nat_lit 31071095449275572413736511820)), [(.ref (nat_lit 31))], [(.ref (nat_lit 89)), (.ref (nat_lit 31)), (.type "Exception"), (.type "BaseException"), (.type "object")], (nat_lit 88), (u (nat_lit 31071095449275572413736511820)), true, [], [], false, .none, false⟩), ⟨[(.some (.ref (nat_lit 73))), .none, (.some (vs (u (nat_lit 31071095449275572413736511820)) (nat_lit 270))), (.some (vs (u (nat_lit 31071095449275572413736511820)) (nat_lit 278))), (.some (.builtin "Exception.__new__")), (.some (.bool true))]⟩⟩
noncomputable def o90 : Obj := ⟨(.type "super"), .none, (.fields ⟨[(.ref (nat_lit 89)), (.ref (nat_lit 89)), (.ref (nat_lit 89))]⟩), ⟨[]⟩⟩
noncomputable def o91 : Obj := ⟨(.type "builtin_function_or_method"), .none, (.fields ⟨[(.builtin "object.__init_subclass__"), (.ref (nat_lit 89))]⟩), ⟨[]⟩⟩
noncomputable def o94 (P : Params) : Obj := ⟨(.type "dict"), .none, (.dict ⟨[en P (u (nat_lit 450384564904988244795231)) (nat_lit 302) (vs (u (nat_lit 39284582853636720492305858640467560981878)) (nat_lit 194)), en P (u (nat_lit 29516402862621713203914170207)) (nat_lit 304) (vs (u (nat_lit 33542168233125172940205483346)) (nat_lit 303)), en P (u (nat_lit 495203858965168609907421719000670047)) (nat_lit 306) (vi (nat_lit 21) (nat_lit 305)), en P (u (nat_lit 6872339552563453791)) (nat_lit 315) (.ref (nat_lit 105)), en P (u (nat_lit 139387583093331537335747288891456728448373227741023)) (nat_lit 318) (.ref (nat_lit 106))]⟩ (nat_lit 5)), ⟨[]⟩⟩
noncomputable def o96 : Obj := ⟨.none, .none, (.fields ⟨[(vi (nat_lit 23) (nat_lit 0)), (vi (nat_lit 4) (nat_lit 0)), (.ref (nat_lit 104))]⟩), ⟨[]⟩⟩
noncomputable def o97 : Obj := ⟨(.type "code"), .none, (.fields ⟨[(vs (u (nat_lit 33542168233125172940205483346)) (nat_lit 297)), (vs (u (nat_lit 33542168233125172940205483346)) (nat_lit 298)), (vs (u (nat_lit 9621326145873605890393926034223)) (nat_lit 299)), (vi (nat_lit 21) (nat_lit 0)), (vi (nat_lit 0) (nat_lit 0)), (vi (nat_lit 0) (nat_lit 0)), (vi (nat_lit 0) (nat_lit 0)), (vi (nat_lit 0) (nat_lit 0)), (.ref (nat_lit 95)), (.bool false), (vi (nat_lit 181) (nat_lit 0)), (.ref (nat_lit 96)), .none, .none, .none, .none, (vi (nat_lit 300) (nat_lit 0)), (vi (nat_lit 21) (nat_lit 0)), (vs (u (nat_lit 9621326145873605890393926034223)) (nat_lit 301))]⟩), ⟨[]⟩⟩
noncomputable def o98 : Obj := ⟨(.type "frame"), .none, .plain, ⟨[(.some (.ref (nat_lit 97))), (.some (.ref (nat_lit 3))), (.some (.ref (nat_lit 94))), .none, (.some (vs (u (nat_lit 39284582853636720492305858640467560981878)) (nat_lit 194))), .none, (.some (.ref (nat_lit 0)))]⟩⟩
noncomputable def o101 : Obj := ⟨(.type "tuple"), .none, (.seq ⟨[(vs (u (nat_lit 1718379891)) (nat_lit 310)), (vs (u (nat_lit 125779768604014)) (nat_lit 311)), (vs (u (nat_lit 435761734006)) (nat_lit 312))]⟩ (nat_lit 0)), ⟨[]⟩⟩
noncomputable def o103 : Obj := ⟨.none, .none, (.func (fO (st2 (nat_lit 6) (nat_lit 0)) false (u (nat_lit 139387605740468218870831681762315561928210567685458)) (nat_lit 0) .none .none .none .none .none .none .none (nat_lit 0))), ⟨[]⟩⟩
noncomputable def o104 : Obj := ⟨(.type "code"), .none, (.fields ⟨[(vs (u (nat_lit 6872339552563453791)) (nat_lit 307)), (vs (u (nat_lit 139387605740468218870831681762315561928210567685458)) (nat_lit 308)), (vs (u (nat_lit 9621326145873605890393926034223)) (nat_lit 309)), (vi (nat_lit 23) (nat_lit 0)), (vi (nat_lit 3) (nat_lit 0)), (vi (nat_lit 0) (nat_lit 0)), (vi (nat_lit 0) (nat_lit 0)), (vi (nat_lit 3) (nat_lit 0)), (.ref (nat_lit 99)), (.bool true), (vi (nat_lit 181) (nat_lit 0)), (.ref (nat_lit 100)), .none, (.ref (nat_lit 101)), (.ref (nat_lit 102)), (.ref (nat_lit 103)), (vi (nat_lit 313) (nat_lit 0)), (vi (nat_lit 23) (nat_lit 0)), (vs (u (nat_lit 9621326145873605890393926034223)) (nat_lit 314))]⟩), ⟨[]⟩⟩
noncomputable def o105 : Obj := ⟨(.type "function"), .none, (.func (fO (st2 (nat_lit 6) (nat_lit 0)) false (u (nat_lit 139387605740468218870831681762315561928210567685458)) (nat_lit 3) .none .none .none (vs (u (nat_lit 39284582853636720492305858640467560981878)) (nat_lit 194)) .none (.ref (nat_lit 104)) .none (nat_lit 0))), ⟨[]⟩⟩
noncomputable def o106 : Obj := ⟨(.type "tuple"), .none, (.seq ⟨[(vs (u (nat_lit 125779768604014)) (nat_lit 316)), (vs (u (nat_lit 435761734006)) (nat_lit 317))]⟩ (nat_lit 0)), ⟨[]⟩⟩
noncomputable def o107 (P : Params) : Obj := ⟨(.type "dict"), .none, (.dict ⟨[en P (u (nat_lit 450384564904988244795231)) (nat_lit 302) (vs (u (nat_lit 39284582853636720492305858640467560981878)) (nat_lit 194)), en P (u (nat_lit 495203858965168609907421719000670047)) (nat_lit 306) (vi (nat_lit 21) (nat_lit 305)), en P (u (nat_lit 6872339552563453791)) (nat_lit 315) (.ref (nat_lit 105)), en P (u (nat_lit 139387583093331537335747288891456728448373227741023)) (nat_lit 318) (.ref (nat_lit 106)), en P (u (nat_lit 26845003462762335)) (nat_lit 319) .none]⟩ (nat_lit 2)), ⟨[]⟩⟩
noncomputable def o108 : Obj := ⟨(.type "type"), .none, (.cls ⟨(u (nat_lit 33542168233125172940205483346)), [(.ref (nat_lit 31))], [(.ref (nat_lit 108)), (.ref (nat_lit 31)), (.type "Exception"), (.type "BaseException"), (.type "object")], (nat_lit 107), (u (nat_lit 33542168233125172940205483346)), true, [], [], false, .none, false⟩), ⟨[(.some (.ref (nat_lit 92))), .none, (.some (vs (u (nat_lit 33542168233125172940205483346)) (nat_lit 295))), (.some (vs (u (nat_lit 33542168233125172940205483346)) (nat_lit 303))), (.some (.builtin "Exception.__new__")), (.some (.bool true))]⟩⟩
noncomputable def o109 : Obj := ⟨(.type "super"), .none, (.fields ⟨[(.ref (nat_lit 108)), (.ref (nat_lit 108)), (.ref (nat_lit 108))]⟩), ⟨[]⟩⟩
noncomputable def o110 : Obj := ⟨(.type "builtin_function_or_method"), .none, (.fields ⟨[(.builtin "object.__init_subclass__"), (.ref (nat_lit 108))]⟩), ⟨[]⟩⟩
noncomputable def o113 (P : Params) : Obj := ⟨(.type "dict"), .none, (.dict ⟨[en P (u (nat_lit 450384564904988244795231)) (nat_lit 329) (vs (u (nat_lit 39284582853636720492305858640467560981878)) (nat_lit 194)), en P (u (nat_lit 29516402862621713203914170207)) (nat_lit 331) (vs (u (nat_lit 511812869768145372409676)) (nat_lit 330)), en P (u (nat_lit 495203858965168609907421719000670047)) (nat_lit 333) (vi (nat_lit 26) (nat_lit 332)), en P (u (nat_lit 6872339552563453791)) (nat_lit 342) (.ref (nat_lit 124)), en P (u (nat_lit 139387583093331537335747288891456728448373227741023)) (nat_lit 345) (.ref (nat_lit 125))]⟩ (nat_lit 5)), ⟨[]⟩⟩
noncomputable def o115 : Obj := ⟨.none, .none, (.fields ⟨[(vi (nat_lit 28) (nat_lit 0)), (vi (nat_lit 4) (nat_lit 0)), (.ref (nat_lit 123))]⟩), ⟨[]⟩⟩
noncomputable def o116 : Obj := ⟨(.type "code"), .none, (.fields ⟨[(vs (u (nat_lit 511812869768145372409676)) (nat_lit 324)), (vs (u (nat_lit 511812869768145372409676)) (nat_lit 325)), (vs (u (nat_lit 9621326145873605890393926034223)) (nat_lit 326)), (vi (nat_lit 26) (nat_lit 0)), (vi (nat_lit 0) (nat_lit 0)), (vi (nat_lit 0) (nat_lit 0)), (vi (nat_lit 0) (nat_lit 0)), (vi (nat_lit 0) (nat_lit 0)), (.ref (nat_lit 114)), (.bool false), (vi (nat_lit 181) (nat_lit 0)), (.ref (nat_lit 115)), .none, .none, .none, .none, (vi (nat_lit 327) (nat_lit 0)), (vi (nat_lit 26) (nat_lit 0)), (vs (u (nat_lit 9621326145873605890393926034223)) (nat_lit 328))]⟩), ⟨[]⟩⟩
noncomputable def o117 : Obj := ⟨(.type "frame"), .none, .plain, ⟨[(.some (.ref (nat_lit 116))), (.some (.ref (nat_lit 3))), (.some (.ref (nat_lit 113))), .none, (.some (vs (u (nat_lit 39284582853636720492305858640467560981878)) (nat_lit 194))), .none, (.some (.ref (nat_lit 0)))]⟩⟩
noncomputable def o120 : Obj := ⟨(.type "tuple"), .none, (.seq ⟨[(vs (u (nat_lit 1718379891)) (nat_lit 337)), (vs (u (nat_lit 125779768604014)) (nat_lit 338)), (vs (u (nat_lit 474214393697)) (nat_lit 339))]⟩ (nat_lit 0)), ⟨[]⟩⟩
noncomputable def o122 : Obj := ⟨.none, .none, (.func (fO (st2 (nat_lit 7) (nat_lit 0)) false (u (nat_lit 2126886073920718671735102565953301421057077068)) (nat_lit 0) .none .none .none .none .none .none .none (nat_lit 0))), ⟨[]⟩⟩
noncomputable def o123 : Obj := ⟨(.type "code"), .none, (.fields ⟨[(vs (u (nat_lit 6872339552563453791)) (nat_lit 334)), (vs (u (nat_lit 2126886073920718671735102565953301421057077068)) (nat_lit 335)), (vs (u (nat_lit 9621326145873605890393926034223)) (nat_lit 336)), (vi (nat_lit 28) (nat_lit 0)), (vi (nat_lit 3) (nat_lit 0)), (vi (nat_lit 0) (nat_lit 0)), (vi (nat_lit 0) (nat_lit 0)), (vi (nat_lit 3) (nat_lit 0)), (.ref (nat_lit 118)), (.bool true), (vi (nat_lit 181) (nat_lit 0)), (.ref (nat_lit 119)), .none, (.ref (nat_lit 120)), (.ref (nat_lit 121)), (.ref (nat_lit 122)), (vi (nat_lit 340) (nat_lit 0)), (vi (nat_lit 28) (nat_lit 0)), (vs (u (nat_lit 9621326145873605890393926034223)) (nat_lit 341))]⟩), ⟨[]⟩⟩
noncomputable def o124 : Obj := ⟨(.type "function"), .none, (.func (fO (st2 (nat_lit 7) (nat_lit 0)) false (u (nat_lit 2126886073920718671735102565953301421057077068)) (nat_lit 3) .none .none .none (vs (u (nat_lit 39284582853636720492305858640467560981878)) (nat_lit 194)) .none (.ref (nat_lit 123)) .none (nat_lit 0))), ⟨[]⟩⟩
noncomputable def o125 : Obj := ⟨(.type "tuple"), .none, (.seq ⟨[(vs (u (nat_lit 474214393697)) (nat_lit 343)), (vs (u (nat_lit 125779768604014)) (nat_lit 344))]⟩ (nat_lit 0)), ⟨[]⟩⟩
noncomputable def o126 (P : Params) : Obj := ⟨(.type "dict"), .none, (.dict ⟨[en P (u (nat_lit 450384564904988244795231)) (nat_lit 329) (vs (u (nat_lit 39284582853636720492305858640467560981878)) (nat_lit 194)), en P (u (nat_lit 495203858965168609907421719000670047)) (nat_lit 333) (vi (nat_lit 26) (nat_lit 332)), en P (u (nat_lit 6872339552563453791)) (nat_lit 342) (.ref (nat_lit 124)), en P (u (nat_lit 139387583093331537335747288891456728448373227741023)) (nat_lit 345) (.ref (nat_lit 125)), en P (u (nat_lit 26845003462762335)) (nat_lit 346) .none]⟩ (nat_lit 2)), ⟨[]⟩⟩
noncomputable def o127 : Obj := ⟨(.type "type"), .none, (.cls ⟨(u (nat_lit 511812869768145372409676)), [(.ref (nat_lit 31))], [(.ref (nat_lit 127)), (.ref (nat_lit 31)), (.type "Exception"), (.type "BaseException"), (.type "object")], (nat_lit 126), (u (nat_lit 511812869768145372409676)), true, [], [], false, .none, false⟩), ⟨[(.some (.ref (nat_lit 111))), .none, (.some (vs (u (nat_lit 511812869768145372409676)) (nat_lit 322))), (.some (vs (u (nat_lit 511812869768145372409676)) (nat_lit 330))), (.some (.builtin "Exception.__new__")), (.some (.bool true))]⟩⟩
noncomputable def o128 : Obj := ⟨(.type "super"), .none, (.fields ⟨[(.ref (nat_lit 127)), (.ref (nat_lit 127)), (.ref (nat_lit 127))]⟩), ⟨[]⟩⟩
noncomputable def o129 : Obj := ⟨(.type "builtin_function_or_method"), .none, (.fields ⟨[(.builtin "object.__init_subclass__"), (.ref (nat_lit 127))]⟩), ⟨[]⟩⟩
noncomputable def o132 (P : Params) : Obj := ⟨(.type "dict"), .none, (.dict ⟨[en P (u (nat_lit 450384564904988244795231)) (nat_lit 358) (vs (u (nat_lit 39267333920436592655438326915056458229110)) (nat_lit 349)), en P (u (nat_lit 29516402862621713203914170207)) (nat_lit 360) (vs (u (nat_lit 1819047246)) (nat_lit 359)), en P (u (nat_lit 495203858965168609907421719000670047)) (nat_lit 362) (vi (nat_lit 32) (nat_lit 361)), en P (u (nat_lit 6872339552563453791)) (nat_lit 369) (.ref (nat_lit 143)), en P (u (nat_lit 139387583093331537335747288891456728448373227741023)) (nat_lit 372) (.ref (nat_lit 144))]⟩ (nat_lit 5)), ⟨[]⟩⟩
noncomputable def o134 : Obj := ⟨.none, .none, (.fields ⟨[(vi (nat_lit 34) (nat_lit 0)), (vi (nat_lit 4) (nat_lit 0)), (.ref (nat_lit 142))]⟩), ⟨[]⟩⟩
noncomputable def o135 : Obj := ⟨(.type "code"), .none, (.fields ⟨[(vs (u (nat_lit 1819047246)) (nat_lit 353)), (vs (u (nat_lit 1819047246)) (nat_lit 354)), (vs (u (nat_lit 9621326145873605890393926034223)) (nat_lit 355)), (vi (nat_lit 32) (nat_lit 0)), (vi (nat_lit 0) (nat_lit 0)), (vi (nat_lit 0) (nat_lit 0)), (vi (nat_lit 0) (nat_lit 0)), (vi (nat_lit 0) (nat_lit 0)), (.ref (nat_lit 133)), (.bool false), (vi (nat_lit 181) (nat_lit 0)), (.ref (nat_lit 134)), .none, .none, .none, .none, (vi (nat_lit 356) (nat_lit 0)), (vi (nat_lit 32) (nat_lit 0)), (vs (u (nat_lit 9621326145873605890393926034223)) (nat_lit 357))]⟩), ⟨[]⟩⟩
noncomputable def o136 : Obj := ⟨(.type "frame"), .none, .plain, ⟨[(.some (.ref (nat_lit 135))), (.some (.ref (nat_lit 3))), (.some (.ref (nat_lit 132))), .none, (.some (vs (u (nat_lit 39267333920436592655438326915056458229110)) (nat_lit 349))), .none, (.some (.ref (nat_lit 0)))]⟩⟩
noncomputable def o139 : Obj := ⟨(.type "tuple"), .none, (.seq ⟨[(vs (u (nat_lit 1718379891)) (nat_lit 366))]⟩ (nat_lit 0)), ⟨[]⟩⟩
noncomputable def o141 : Obj := ⟨.none, .none, (.func (fO (st2 (nat_lit 9) (nat_lit 0)) false (u (nat_lit 7556217248068430591470355641678)) (nat_lit 0) .none .none .none .none .none .none .none (nat_lit 0))), ⟨[]⟩⟩
noncomputable def o142 : Obj := ⟨(.type "code"), .none, (.fields ⟨[(vs (u (nat_lit 6872339552563453791)) (nat_lit 363)), (vs (u (nat_lit 7556217248068430591470355641678)) (nat_lit 364)), (vs (u (nat_lit 9621326145873605890393926034223)) (nat_lit 365)), (vi (nat_lit 34) (nat_lit 0)), (vi (nat_lit 1) (nat_lit 0)), (vi (nat_lit 0) (nat_lit 0)), (vi (nat_lit 0) (nat_lit 0)), (vi (nat_lit 3) (nat_lit 0)), (.ref (nat_lit 137)), (.bool true), (vi (nat_lit 181) (nat_lit 0)), (.ref (nat_lit 138)), .none, (.ref (nat_lit 139)), (.ref (nat_lit 140)), (.ref (nat_lit 141)), (vi (nat_lit 367) (nat_lit 0)), (vi (nat_lit 34) (nat_lit 0)), (vs (u (nat_lit 9621326145873605890393926034223)) (nat_lit 368))]⟩), ⟨[]⟩⟩
noncomputable def o143 : Obj := ⟨(.type "function"), .none, (.func (fO (st2 (nat_lit 9) (nat_lit 0)) false (u (nat_lit 7556217248068430591470355641678)) (nat_lit 3) .none .none .none (vs (u (nat_lit 39267333920436592655438326915056458229110)) (nat_lit 349)) .none (.ref (nat_lit 142)) .none (nat_lit 0))), ⟨[]⟩⟩
noncomputable def o144 : Obj := ⟨(.type "tuple"), .none, (.seq ⟨[(vs (u (nat_lit 495841473633)) (nat_lit 370)), (vs (u (nat_lit 1684957547)) (nat_lit 371))]⟩ (nat_lit 0)), ⟨[]⟩⟩
noncomputable def o145 (P : Params) : Obj := ⟨(.type "dict"), .none, (.dict ⟨[en P (u (nat_lit 450384564904988244795231)) (nat_lit 358) (vs (u (nat_lit 39267333920436592655438326915056458229110)) (nat_lit 349)), en P (u (nat_lit 495203858965168609907421719000670047)) (nat_lit 362) (vi (nat_lit 32) (nat_lit 361)), en P (u (nat_lit 6872339552563453791)) (nat_lit 369) (.ref (nat_lit 143)), en P (u (nat_lit 139387583093331537335747288891456728448373227741023)) (nat_lit 372) (.ref (nat_lit 144)), en P (u (nat_lit 6872339526709436255)) (nat_lit 374) (.ref (nat_lit 147)), en P (u (nat_lit 115298466557181117500710751)) (nat_lit 376) (.ref (nat_lit 148)), en P (u (nat_lit 26845003462762335)) (nat_lit 377) .none]⟩ (nat_lit 4)), ⟨[]⟩⟩
noncomputable def o146 : Obj := ⟨(.type "type"), .none, (.cls ⟨(u (nat_lit 1819047246)), [(.type "object")], [(.ref (nat_lit 146)), (.type "object")], (nat_lit 145), (u (nat_lit 1819047246)), true, [], [], false, .none, false⟩), ⟨[.none, .none, (.some (vs (u (nat_lit 1819047246)) (nat_lit 351))), (.some (vs (u (nat_lit 1819047246)) (nat_lit 359))), (.some (.builtin "object.__new__")), (.some (.bool true))]⟩⟩
noncomputable def o147 : Obj := ⟨(.type "getset_descriptor"), .none, (.fields ⟨[(vs (u (nat_lit 6872339526709436255)) (nat_lit 373)), (.ref (nat_lit 146)), (.builtin "function.__dict__"), (.builtin "function.__dict__#set")]⟩), ⟨[]⟩⟩
noncomputable def o148 : Obj := ⟨(.type "getset_descriptor"), .none, (.fields ⟨[(vs (u (nat_lit 115298466557181117500710751)) (nat_lit 375)), (.ref (nat_lit 146)), (.builtin "ExceptionGroup.__weakref__"), .none]⟩), ⟨[]⟩⟩
noncomputable def o149 : Obj := ⟨(.type "super"), .none, (.fields ⟨[(.ref (nat_lit 146)), (.ref (nat_lit 146)), (.ref (nat_lit 146))]⟩), ⟨[]⟩⟩
noncomputable def o150 : Obj := ⟨(.type "builtin_function_or_method"), .none, (.fields ⟨[(.builtin "object.__init_subclass__"), (.ref (nat_lit 146))]⟩), ⟨[]⟩⟩
noncomputable def o153 (P : Params) : Obj := ⟨(.type "dict"), .none, (.dict ⟨[en P (u (nat_lit 450384564904988244795231)) (nat_lit 387) (vs (u (nat_lit 39267333920436592655438326915056458229110)) (nat_lit 349)), en P (u (nat_lit 29516402862621713203914170207)) (nat_lit 389) (vs (u (nat_lit 29113321788762445)) (nat_lit 388)), en P (u (nat_lit 495203858965168609907421719000670047)) (nat_lit 391) (vi (nat_lit 37) (nat_lit 390)), en P (u (nat_lit 6872339552563453791)) (nat_lit 398) (.ref (nat_lit 164)), en P (u (nat_lit 139387583093331537335747288891456728448373227741023)) (nat_lit 401) (.ref (nat_lit 165))]⟩ (nat_lit 5)), ⟨[]⟩⟩
noncomputable def o155 : Obj := ⟨.none, .none, (.fields ⟨[(vi (nat_lit 39) (nat_lit 0)), (vi (nat_lit 4) (nat_lit 0)), (.ref (nat_lit 163))]⟩), ⟨[]⟩⟩
noncomputable def o156 : Obj := ⟨(.type "code"), .none, (.fields ⟨[(vs (u (nat_lit 29113321788762445)) (nat_lit 382)), (vs (u (nat_lit 29113321788762445)) (nat_lit 383)), (vs (u (nat_lit 9621326145873605890393926034223)) (nat_lit 384)), (vi (nat_lit 37) (nat_lit 0)), (vi (nat_lit 0) (nat_lit 0)), (vi (nat_lit 0) (nat_lit 0)), (vi (nat_lit 0) (nat_lit 0)), (vi (nat_lit 0) (nat_lit 0)), (.ref (nat_lit 154)), (.bool false), (vi (nat_lit 181) (nat_lit 0)), (.ref (nat_lit 155)), .none, .none, .none, .none, (vi (nat_lit 385) (nat_lit 0)), (vi (nat_lit 37) (nat_lit 0)), (vs (u (nat_lit 9621326145873605890393926034223)) (nat_lit 386))]⟩), ⟨[]⟩⟩
noncomputable def o157 : Obj := ⟨(.type "frame"), .none, .plain, ⟨[(.some (.ref (nat_lit 156))), (.some (.ref (nat_lit 3))), (.some (.ref (nat_lit 153))), .none, (.some (vs (u (nat_lit 39267333920436592655438326915056458229110)) (nat_lit 349))), .none, (.some (.ref (nat_lit 0)))]⟩⟩
noncomputable def o160 : Obj := ⟨(.type "tuple"), .none, (.seq ⟨[(vs (u (nat_lit 1718379891)) (nat_lit 395))]⟩ (nat_lit 0)), ⟨[]⟩⟩
noncomputable def o162 : Obj := ⟨.none, .none, (.func (fO (st2 (nat_lit 10) (nat_lit 0)) false (u (nat_lit 126772288913769642814104508970478823757)) (nat_lit 0) .none .none .none .none .none .none .none (nat_lit 0))), ⟨[]⟩⟩
noncomputable def o163 : Obj := ⟨(.type "code"), .none, (.fields ⟨[(vs (u (nat_lit 6872339552563453791)) (nat_lit 392)), (vs (u (nat_lit 126772288913769642814104508970478823757)) (nat_lit 393)), (vs (u (nat_lit 9621326145873605890393926034223)) (nat_lit 394)), (vi (nat_lit 39) (nat_lit 0)), (vi (nat_lit 1) (nat_lit 0)), (vi (nat_lit 0) (nat_lit 0)), (vi (nat_lit 0) (nat_lit 0)), (vi (nat_lit 3) (nat_lit 0)), (.ref (nat_lit 158)), (.bool true), (vi (nat_lit 181) (nat_lit 0)), (.ref (nat_lit 159)), .none, (.ref (nat_lit 160)), (.ref (nat_lit 161)), (.ref (nat_lit 162)), (vi (nat_lit 396) (nat_lit 0)), (vi (nat_lit 39) (nat_lit 0)), (vs (u (nat_lit 9621326145873605890393926034223)) (nat_lit 397))]⟩), ⟨[]⟩⟩
noncomputable def o164 : Obj := ⟨(.type "function"), .none, (.func (fO (st2 (nat_lit 10) (nat_lit 0)) false (u (nat_lit 126772288913769642814104508970478823757)) (nat_lit 3) .none .none .none (vs (u (nat_lit 39267333920436592655438326915056458229110)) (nat_lit 349)) .none (.ref (nat_lit 163)) .none (nat_lit 0))), ⟨[]⟩⟩
noncomputable def o165 : Obj := ⟨(.type "tuple"), .none, (.seq ⟨[(vs (u (nat_lit 495841473633)) (nat_lit 399)), (vs (u (nat_lit 1684957547)) (nat_lit 400))]⟩ (nat_lit 0)), ⟨[]⟩⟩
noncomputable def o166 (P : Params) : Obj := ⟨(.type "dict"), .none, (.dict ⟨[en P (u (nat_lit 450384564904988244795231)) (nat_lit 387) (vs (u (nat_lit 39267333920436592655438326915056458229110)) (nat_lit 349)), en P (u (nat_lit 495203858965168609907421719000670047)) (nat_lit 391) (vi (nat_lit 37) (nat_lit 390)), en P (u (nat_lit 6872339552563453791)) (nat_lit 398) (.ref (nat_lit 164)), en P (u (nat_lit 139387583093331537335747288891456728448373227741023)) (nat_lit 401) (.ref (nat_lit 165)), en P (u (nat_lit 6872339526709436255)) (nat_lit 403) (.ref (nat_lit 168)), en P (u (nat_lit 115298466557181117500710751)) (nat_lit 405) (.ref (nat_lit 169)), en P (u (nat_lit 26845003462762335)) (nat_lit 406) .none]⟩ (nat_lit 4)), ⟨[]⟩⟩
noncomputable def o167 : Obj := ⟨(.type "type"), .none, (.cls ⟨(u (nat_lit 29113321788762445)), [(.type "object")], [(.ref (nat_lit 167)), (.type "object")], (nat_lit 166), (u (nat_lit 29113321788762445)), true, [], [], false, .none, false⟩), ⟨[.none, .none, (.some (vs (u (nat_lit 29113321788762445)) (nat_lit 380))), (.some (vs (u (nat_lit 29113321788762445)) (nat_lit 388))), (.some (.builtin "object.__new__")), (.some (.bool true))]⟩⟩
noncomputable def o168 : Obj := ⟨(.type "getset_descriptor"), .none, (.fields ⟨[(vs (u (nat_lit 6872339526709436255)) (nat_lit 402)), (.ref (nat_lit 167)), (.builtin "function.__dict__"), (.builtin "function.__dict__#set")]⟩), ⟨[]⟩⟩
noncomputable def o169 : Obj := ⟨(.type "getset_descriptor"), .none, (.fields ⟨[(vs (u (nat_lit 115298466557181117500710751)) (nat_lit 404)), (.ref (nat_lit 167)), (.builtin "ExceptionGroup.__weakref__"), .none]⟩), ⟨[]⟩⟩
noncomputable def o170 : Obj := ⟨(.type "super"), .none, (.fields ⟨[(.ref (nat_lit 167)), (.ref (nat_lit 167)), (.ref (nat_lit 167))]⟩), ⟨[]⟩⟩
noncomputable def o171 : Obj := ⟨(.type "builtin_function_or_method"), .none, (.fields ⟨[(.builtin "object.__init_subclass__"), (.ref (nat_lit 167))]⟩), ⟨[]⟩⟩
noncomputable def o174 (P : Params) : Obj := ⟨(.type "dict"), .none, (.dict ⟨[en P (u (nat_lit 450384564904988244795231)) (nat_lit 416) (vs (u (nat_lit 39267333920436592655438326915056458229110)) (nat_lit 349)), en P (u (nat_lit 29516402862621713203914170207)) (nat_lit 418) (vs (u (nat_lit 125823019607382)) (nat_lit 417)), en P (u (nat_lit 495203858965168609907421719000670047)) (nat_lit 420) (vi (nat_lit 42) (nat_lit 419)), en P (u (nat_lit 6872339552563453791)) (nat_lit 430) (.ref (nat_lit 186)), en P (u (nat_lit 2037411683)) (nat_lit 437) (.ref (nat_lit 193)), en P (u (nat_lit 139387583093331537335747288891456728448373227741023)) (nat_lit 443) (.ref (nat_lit 194))]⟩ (nat_lit 6)), ⟨[]⟩⟩
noncomputable def o176 : Obj := ⟨.none, .none, (.fields ⟨[(vi (nat_lit 44) (nat_lit 0)), (vi (nat_lit 4) (nat_lit 0)), (.ref (nat_lit 185)), (vi (nat_lit 51) (nat_lit 0)), (vi (nat_lit 4) (nat_lit 0)), (.ref (nat_lit 192))]⟩), ⟨[]⟩⟩
noncomputable def o177 : Obj := ⟨(.type "code"), .none, (.fields ⟨[(vs (u (nat_lit 125823019607382)) (nat_lit 411)), (vs (u (nat_lit 125823019607382)) (nat_lit 412)), (vs (u (nat_lit 9621326145873605890393926034223)) (nat_lit 413)), (vi (nat_lit 42) (nat_lit 0)), (vi (nat_lit 0) (nat_lit 0)), (vi (nat_lit 0) (nat_lit 0)), (vi (nat_lit 0) (nat_lit 0)), (vi (nat_lit 0) (nat_lit 0)), (.ref (nat_lit 175)), (.bool false), (vi (nat_lit 181) (nat_lit 0)), (.ref (nat_lit 176)), .none, .none, .none, .none, (vi (nat_lit 414) (nat_lit 0)), (vi (nat_lit 42) (nat_lit 0)), (vs (u (nat_lit 9621326145873605890393926034223)) (nat_lit 415))]⟩), ⟨[]⟩⟩
noncomputable def o178 : Obj := ⟨(.type "frame"), .none, .plain, ⟨[(.some (.ref (nat_lit 177))), (.some (.ref (nat_lit 3))), (.some (.ref (nat_lit 174))), .none, (.some (vs (u (nat_lit 39267333920436592655438326915056458229110)) (nat_lit 349))), .none, (.some (.ref (nat_lit 0)))]⟩⟩
noncomputable def o179 : Obj := ⟨(.type "tuple"), .none, (.seq ⟨[.none]⟩ (nat_lit 0)), ⟨[]⟩⟩
noncomputable def o182 : Obj := ⟨(.type "tuple"), .none, (.seq ⟨[(vs (u (nat_lit 1718379891)) (nat_lit 424)), (vs (u (nat_lit 1684957547)) (nat_lit 425)), (vs (u (nat_lit 495756604521)) (nat_lit 426)), (vs (u (nat_lit 495841473633)) (nat_lit 427))]⟩ (nat_lit 0)), ⟨[]⟩⟩
noncomputable def o184 : Obj := ⟨.none, .none, (.func (fO (st2 (nat_lit 11) (nat_lit 0)) false (u (nat_lit 495204253569412667242607837272302934)) (nat_lit 0) .none .none .none .none .none .none .none (nat_lit 0))), ⟨[]⟩⟩
noncomputable def o185 : Obj := ⟨(.type "code"), .none, (.fields ⟨[(vs (u (nat_lit 6872339552563453791)) (nat_lit 421)), (vs (u (nat_lit 495204253569412667242607837272302934)) (nat_lit 422)), (vs (u (nat_lit 9621326145873605890393926034223)) (nat_lit 423)), (vi (nat_lit 44) (nat_lit 0)), (vi (nat_lit 4) (nat_lit 0)), (vi (nat_lit 0) (nat_lit 0)), (vi (nat_lit 0) (nat_lit 0)), (vi (nat_lit 3) (nat_lit 0)), (.ref (nat_lit 180)), (.bool true), (vi (nat_lit 181) (nat_lit 0)), (.ref (nat_lit 181)), .none, (.ref (nat_lit 182)), (.ref (nat_lit 183)), (.ref (nat_lit 184)), (vi (nat_lit 428) (nat_lit 0)), (vi (nat_lit 44) (nat_lit 0)), (vs (u (nat_lit 9621326145873605890393926034223)) (nat_lit 429))]⟩), ⟨[]⟩⟩
noncomputable def o186 : Obj := ⟨(.type "function"), .none, (.func (fO (st2 (nat_lit 11) (nat_lit 0)) false (u (nat_lit 495204253569412667242607837272302934)) (nat_lit 3) (.ref (nat_lit 179)) .none .none (vs (u (nat_lit 39267333920436592655438326915056458229110)) (nat_lit 349)) .none (.ref (nat_lit 185)) .none (nat_lit 0))), ⟨[]⟩⟩
noncomputable def o189 : Obj := ⟨(.type "tuple"), .none, (.seq ⟨[(vs (u (nat_lit 1718379891)) (nat_lit 434))]⟩ (nat_lit 0)), ⟨[]⟩⟩
noncomputable def o191 : Obj := ⟨.none, .none, (.func (fO (st2 (nat_lit 11) (nat_lit 1)) false (u (nat_lit 146810983954819193866773846)) (nat_lit 0) .none .none .none .none .none .none .none (nat_lit 0))), ⟨[]⟩⟩
noncomputable def o192 : Obj := ⟨(.type "code"), .none, (.fields ⟨[(vs (u (nat_lit 2037411683)) (nat_lit 431)), (vs (u (nat_lit 146810983954819193866773846)) (nat_lit 432)), (vs (u (nat_lit 9621326145873605890393926034223)) (nat_lit 433)), (vi (nat_lit 51) (nat_lit 0)), (vi (nat_lit 1) (nat_lit 0)), (vi (nat_lit 0) (nat_lit 0)), (vi (nat_lit 0) (nat_lit 0)), (vi (nat_lit 3) (nat_lit 0)), (.ref (nat_lit 187)), (.bool true), (vi (nat_lit 181) (nat_lit 0)), (.ref (nat_lit 188)), .none, (.ref (nat_lit 189)), (.ref (nat_lit 190)), (.ref (nat_lit 191)), (vi (nat_lit 435) (nat_lit 0)), (vi (nat_lit 51) (nat_lit 0)), (vs (u (nat_lit 9621326145873605890393926034223)) (nat_lit 436))]⟩), ⟨[]⟩⟩
noncomputable def o193 : Obj := ⟨(.type "function"), .none, (.func (fO (st2 (nat_lit 11) (nat_lit 1)) false (u (nat_lit 146810983954819193866773846)) (nat_lit 3) .none .none .none (vs (u (nat_lit 39267333920436592655438326915056458229110)) (nat_lit 349)) .none (.ref (nat_lit 192)) .none (nat_lit 0))), ⟨[]⟩⟩
noncomputable def o194 : Obj := ⟨(.type "tuple"), .none, (.seq ⟨[(vs (u (nat_lit 495841473633)) (nat_lit 438)), (vs (u (nat_lit 495756604521)) (nat_lit 439)), (vs (u (nat_lit 1684957547)) (nat_lit 440)), (vs (u (nat_lit 435728379756)) (nat_lit 441)), (vs (u (nat_lit 110386873460851)) (nat_lit 442))]⟩ (nat_lit 0)), ⟨[]⟩⟩
noncomputable def o195 (P : Params) : Obj := ⟨(.type "dict"), .none, (.dict ⟨[en P (u (nat_lit 450384564904988244795231)) (nat_lit 416) (vs (u (nat_lit 39267333920436592655438326915056458229110)) (nat_lit 349)), en P (u (nat_lit 495203858965168609907421719000670047)) (nat_lit 420) (vi (nat_lit 42) (nat_lit 419)), en P (u (nat_lit 6872339552563453791)) (nat_lit 430) (.ref (nat_lit 186)), en P (u (nat_lit 2037411683)) (nat_lit 437) (.ref (nat_lit 193)), en P (u (nat_lit 139387583093331537335747288891456728448373227741023)) (nat_lit 443) (.ref (nat_lit 194)), en P (u (nat_lit 6872339526709436255)) (nat_lit 445) (.ref (nat_lit 197)), en P (u (nat_lit 115298466557181117500710751)) (nat_lit 447) (.ref (nat_lit 198)), en P (u (nat_lit 26845003462762335)) (nat_lit 448) .none]⟩ (nat_lit 4)), ⟨[]⟩⟩
noncomputable def o196 : Obj := ⟨(.type "type"), .none, (.cls ⟨(u (nat_lit 125823019607382)), [(.type "object")], [(.ref (nat_lit 196)), (.type "object")], (nat_lit 195), (u (nat_lit 125823019607382)), true, [], [], false, .none, false⟩), ⟨[.none, .none, (.some (vs (u (nat_lit 125823019607382)) (nat_lit 409))), (.some (vs (u (nat_lit 125823019607382)) (nat_lit 417))), (.some (.builtin "object.__new__")), (.some (.bool true))]⟩⟩
noncomputable def o197 : Obj := ⟨(.type "getset_descriptor"), .none, (.fields ⟨[(vs (u (nat_lit 6872339526709436255)) (nat_lit 444)), (.ref (nat_lit 196)), (.builtin "function.__dict__"), (.builtin "function.__dict__#set")]⟩), ⟨[]⟩⟩
noncomputable def o198 : Obj := ⟨(.type "getset_descriptor"), .none, (.fields ⟨[(vs (u (nat_lit 115298466557181117500710751)) (nat_lit 446)), (.ref (nat_lit 196)), (.builtin "ExceptionGroup.__weakref__"), .none]⟩), ⟨[]⟩⟩
noncomputable def o199 : Obj := ⟨(.type "super"), .none, (.fields ⟨[(.ref (nat_lit 196)), (.ref (nat_lit 196)), (.ref (nat_lit 196))]⟩), ⟨[]⟩⟩
noncomputable def o200 : Obj := ⟨(.type "builtin_function_or_method"), .none, (.fields ⟨[(.builtin "object.__init_subclass__"), (.ref (nat_lit 196))]⟩), ⟨[]⟩⟩
noncomputable def o203 (P : Params) : Obj := ⟨(.type "dict"), .none, (.dict ⟨[en P (u (nat_lit 450384564904988244795231)) (nat_lit 458) (vs (u (nat_lit 39267333920436592655438326915056458229110)) (nat_lit 349)), en P (u (nat_lit 29516402862621713203914170207)) (nat_lit 460) (vs (u (nat_lit 119225648511315)) (nat_lit 459)), en P (u (nat_lit 495203858965168609907421719000670047)) (nat_lit 462) (vi (nat_lit 53) (nat_lit 461)), en P (u (nat_lit 6872339552563453791)) (nat_lit 470) (.ref (nat_lit 214)), en P (u (nat_lit 139387583093331537335747288891456728448373227741023)) (nat_lit 474) (.ref (nat_lit 215))]⟩ (nat_lit 5)), ⟨[]⟩⟩
noncomputable def o205 : Obj := ⟨.none, .none, (.fields ⟨[(vi (nat_lit 55) (nat_lit 0)), (vi (nat_lit 4) (nat_lit 0)), (.ref (nat_lit 213))]⟩), ⟨[]⟩⟩
noncomputable def o206 : Obj := ⟨(.type "code"), .none, (.fields ⟨[(vs (u (nat_lit 119225648511315)) (nat_lit 453)), (vs (u (nat_lit 119225648511315)) (nat_lit 454)), (vs (u (nat_lit 9621326145873605890393926034223)) (nat_lit 455)), (vi (nat_lit 53) (nat_lit 0)), (vi (nat_lit 0) (nat_lit 0)), (vi (nat_lit 0) (nat_lit 0)), (vi (nat_lit 0) (nat_lit 0)), (vi (nat_lit 0) (nat_lit 0)), (.ref (nat_lit 204)), (.bool false), (vi (nat_lit 181) (nat_lit 0)), (.ref (nat_lit 205)), .none, .none, .none, .none, (vi (nat_lit 456) (nat_lit 0)), (vi (nat_lit 53) (nat_lit 0)), (vs (u (nat_lit 9621326145873605890393926034223)) (nat_lit 457))]⟩), ⟨[]⟩⟩
noncomputable def o207 : Obj := ⟨(.type "frame"), .none, .plain, ⟨[(.some (.ref (nat_lit 206))), (.some (.ref (nat_lit 3))), (.some (.ref (nat_lit 203))), .none, (.some (vs (u (nat_lit 39267333920436592655438326915056458229110)) (nat_lit 349))), .none, (.some (.ref (nat_lit 0)))]⟩⟩
noncomputable def o210 : Obj := ⟨(.type "tuple"), .none, (.seq ⟨[(vs (u (nat_lit 1718379891)) (nat_lit 466)), (vs (u (nat_lit 1701667182)) (nat_lit 467))]⟩ (nat_lit 0)), ⟨[]⟩⟩
noncomputable def o212 : Obj := ⟨.none, .none, (.func (fO (st2 (nat_lit 12) (nat_lit 0)) false (u (nat_lit 495204253569412667242601239901206867)) (nat_lit 0) .none .none .none .none .none .none .none (nat_lit 0))), ⟨[]⟩⟩
noncomputable def o213 : Obj := ⟨(.type "code"), .none, (.fields ⟨[(vs (u (nat_lit 6872339552563453791)) (nat_lit 463)), (vs (u (nat_lit 495204253569412667242601239901206867)) (nat_lit 464)), (vs (u (nat_lit 9621326145873605890393926034223)) (nat_lit 465)), (vi (nat_lit 55) (nat_lit 0)), (vi (nat_lit 2) (nat_lit 0)), (vi (nat_lit 0) (nat_lit 0)), (vi (nat_lit 0) (nat_lit 0)), (vi (nat_lit 3) (nat_lit 0)), (.ref (nat_lit 208)), (.bool true), (vi (nat_lit 181) (nat_lit 0)), (.ref (nat_lit 209)), .none, (.ref (nat_lit 210)), (.ref (nat_lit 211)), (.ref (nat_lit 212)), (vi (nat_lit 468) (nat_lit 0)), (vi (nat_lit 55) (nat_lit 0)), (vs (u (nat_lit 9621326145873605890393926034223)) (nat_lit 469))]⟩), ⟨[]⟩⟩
noncomputable def o214 : Obj := ⟨(.type "function"), .none, (.func (fO (st2 (nat_lit 12) (nat_lit 0)) false (u (nat_lit 495204253569412667242601239901206867)) (nat_lit 3) .none .none .none (vs (u (nat_lit 39267333920436592655438326915056458229110)) (nat_lit 349)) .none (.ref (nat_lit 213)) .none (nat_lit 0))), ⟨[]⟩⟩
noncomputable def o215 : Obj := ⟨(.type "tuple"), .none, (.seq ⟨[(vs (u (nat_lit 495841473633)) (nat_lit 471)), (vs (u (nat_lit 1684957547)) (nat_lit 472)), (vs (u (nat_lit 1701667182)) (nat_lit 473))]⟩ (nat_lit 0)), ⟨[]⟩⟩
noncomputable def o216 (P : Params) : Obj := ⟨(.type "dict"), .none, (.dict ⟨[en P (u (nat_lit 450384564904988244795231)) (nat_lit 458) (vs (u (nat_lit 39267333920436592655438326915056458229110)) (nat_lit 349)), en P (u (nat_lit 495203858965168609907421719000670047)) (nat_lit 462) (vi (nat_lit 53) (nat_lit 461)), en P (u (nat_lit 6872339552563453791)) (nat_lit 470) (.ref (nat_lit 214)), en P (u (nat_lit 139387583093331537335747288891456728448373227741023)) (nat_lit 474) (.ref (nat_lit 215)), en P (u (nat_lit 6872339526709436255)) (nat_lit 476) (.ref (nat_lit 218)), en P (u (nat_lit 115298466557181117500710751)) (nat_lit 478) (.ref (nat_lit 219)), en P (u (nat_lit 26845003462762335)) (nat_lit 479) .none]⟩ (nat_lit 4)), ⟨[]⟩⟩
noncomputable def o217 : Obj := ⟨(.type "type"), .none, (.cls ⟨(u (nat_lit 119225648511315)), [(.type "object")], [(.ref (nat_lit 217)), (.type "object")], (nat_lit 216), (u (nat_lit 119225648511315)), true, [], [], false, .none, false⟩), ⟨[.none, .none, (.some (vs (u (nat_lit 119225648511315)) (nat_lit 451))), (.some (vs (u (nat_lit 119225648511315)) (nat_lit 459))), (.some (.builtin "object.__new__")), (.some (.bool true))]⟩⟩
noncomputable def o218 : Obj := ⟨(.type "getset_descriptor"), .none, (.fields ⟨[(vs (u (nat_lit 6872339526709436255)) (nat_lit 475)), (.ref (nat_lit 217)), (.builtin "function.__dict__"), (.builtin "function.__dict__#set")]⟩), ⟨[]⟩⟩
noncomputable def o219 : Obj := ⟨(.type "getset_descriptor"), .none, (.fields ⟨[(vs (u (nat_lit 115298466557181117500710751)) (nat_lit 477)), (.ref (nat_lit 217)), (.builtin "ExceptionGroup.__weakref__"), .none]⟩), ⟨[]⟩⟩
noncomputable def o220 : Obj := ⟨(.type "super"), .none, (.fields ⟨[(.ref (nat_lit 217)), (.ref (nat_lit 217)), (.ref (nat_lit 217))]⟩), ⟨[]⟩⟩
noncomputable def o221 : Obj := ⟨(.type "builtin_function_or_method"), .none, (.fields ⟨[(.builtin "object.__init_subclass__"), (.ref (nat_lit 217))]⟩), ⟨[]⟩⟩
noncomputable def o224 (P : Params) : Obj := ⟨(.type "dict"), .none, (.dict ⟨[en P (u (nat_lit 450384564904988244795231)) (nat_lit 489) (vs (u (nat_lit 39267333920436592655438326915056458229110)) (nat_lit 349)), en P (u (nat_lit 29516402862621713203914170207)) (nat_lit 491) (vs (u (nat_lit 1819042115)) (nat_lit 490)), en P (u (nat_lit 495203858965168609907421719000670047)) (nat_lit 493) (vi (nat_lit 59) (nat_lit 492)), en P (u (nat_lit 6872339552563453791)) (nat_lit 503) (.ref (nat_lit 236)), en P (u (nat_lit 139387583093331537335747288891456728448373227741023)) (nat_lit 509) (.ref (nat_lit 237))]⟩ (nat_lit 5)), ⟨[]⟩⟩
noncomputable def o226 : Obj := ⟨.none, .none, (.fields ⟨[(vi (nat_lit 61) (nat_lit 0)), (vi (nat_lit 4) (nat_lit 0)), (.ref (nat_lit 235))]⟩), ⟨[]⟩⟩
noncomputable def o227 : Obj := ⟨(.type "code"), .none, (.fields ⟨[(vs (u (nat_lit 1819042115)) (nat_lit 484)), (vs (u (nat_lit 1819042115)) (nat_lit 485)), (vs (u (nat_lit 9621326145873605890393926034223)) (nat_lit 486)), (vi (nat_lit 59) (nat_lit 0)), (vi (nat_lit 0) (nat_lit 0)), (vi (nat_lit 0) (nat_lit 0)), (vi (nat_lit 0) (nat_lit 0)), (vi (nat_lit 0) (nat_lit 0)), (.ref (nat_lit 225)), (.bool false), (vi (nat_lit 181) (nat_lit 0)), (.ref (nat_lit 226)), .none, .none, .none, .none, (vi (nat_lit 487) (nat_lit 0)), (vi (nat_lit 59) (nat_lit 0)), (vs (u (nat_lit 9621326145873605890393926034223)) (nat_lit 488))]⟩), ⟨[]⟩⟩
noncomputable def o228 : Obj := ⟨(.type "frame"), .none, .plain, ⟨[(.some (.ref (nat_lit 227))), (.some (.ref (nat_lit 3))), (.some (.ref (nat_lit 224))), .none, (.some (vs (u (nat_lit 39267333920436592655438326915056458229110)) (nat_lit 349))), .none, (.some (.ref (nat_lit 0)))]⟩⟩
noncomputable def o232 : Obj := ⟨(.type "tuple"), .none, (.seq ⟨[(vs (u (nat_lit 1718379891)) (nat_lit 497)), (vs (u (nat_lit 495756604521)) (nat_lit 498)), (vs (u (nat_lit 1936154996)) (nat_lit 499)), (vs (u (nat_lit 495841473633)) (nat_lit 500))]⟩ (nat_lit 0)), ⟨[]⟩⟩
noncomputable def o234 : Obj := ⟨.none, .none, (.func (fO (st2 (nat_lit 13) (nat_lit 0)) false (u (nat_lit 7556217248068430591470355636547)) (nat_lit 0) .none .none .none .none .none .none .none (nat_lit 0))), ⟨[]⟩⟩
noncomputable def o235 : Obj := ⟨(.type "code"), .none, (.fields ⟨[(vs (u (nat_lit 6872339552563453791)) (nat_lit 494)), (vs (u (nat_lit 7556217248068430591470355636547)) (nat_lit 495)), (vs (u (nat_lit 9621326145873605890393926034223)) (nat_lit 496)), (vi (nat_lit 61) (nat_lit 0)), (vi (nat_lit 4) (nat_lit 0)), (vi (nat_lit 0) (nat_lit 0)), (vi (nat_lit 0) (nat_lit 0)), (vi (nat_lit 3) (nat_lit 0)), (.ref (nat_lit 230)), (.bool true), (vi (nat_lit 181) (nat_lit 0)), (.ref (nat_lit 231)), .none, (.ref (nat_lit 232)), (.ref (nat_lit 233)), (.ref (nat_lit 234)), (vi (nat_lit 501) (nat_lit 0)), (vi (nat_lit 61) (nat_lit 0)), (vs (u (nat_lit 9621326145873605890393926034223)) (nat_lit 502))]⟩), ⟨[]⟩⟩
noncomputable def o236 : Obj := ⟨(.type "function"), .none, (.func (fO (st2 (nat_lit 13) (nat_lit 0)) false (u (nat_lit 7556217248068430591470355636547)) (nat_lit 3) (.ref (nat_lit 229)) .none .none (vs (u (nat_lit 39267333920436592655438326915056458229110)) (nat_lit 349)) .none (.ref (nat_lit 235)) .none (nat_lit 0))), ⟨[]⟩⟩
noncomputable def o237 : Obj := ⟨(.type "tuple"), .none, (.seq ⟨[(vs (u (nat_lit 495841473633)) (nat_lit 504)), (vs (u (nat_lit 1701080931)) (nat_lit 505)), (vs (u (nat_lit 495756604521)) (nat_lit 506)), (vs (u (nat_lit 1684957547)) (nat_lit 507)), (vs (u (nat_lit 1936154996)) (nat_lit 508))]⟩ (nat_lit 0)), ⟨[]⟩⟩
noncomputable def o238 (P : Params) : Obj := ⟨(.type "dict"), .none, (.dict ⟨[en P (u (nat_lit 450384564904988244795231)) (nat_lit 489) (vs (u (nat_lit 39267333920436592655438326915056458229110)) (nat_lit 349)), en P (u (nat_lit 495203858965168609907421719000670047)) (nat_lit 493) (vi (nat_lit 59) (nat_lit 492)), en P (u (nat_lit 6872339552563453791)) (nat_lit 503) (.ref (nat_lit 236)), en P (u (nat_lit 139387583093331537335747288891456728448373227741023)) (nat_lit 509) (.ref (nat_lit 237)), en P (u (nat_lit 6872339526709436255)) (nat_lit 511) (.ref (nat_lit 240)), en P (u (nat_lit 115298466557181117500710751)) (nat_lit 513) (.ref (nat_lit 241)), en P (u (nat_lit 26845003462762335)) (nat_lit 514) .none]⟩ (nat_lit 4)), ⟨[]⟩⟩
noncomputable def o239 : Obj := ⟨(.type "type"), .none, (.cls ⟨(u (nat_lit 1819042115)), [(.type "object")], [(.ref (nat_lit 239)), (.type "object")], (nat_lit 238), (u (nat_lit 1819042115)), true, [], [], false, .none, false⟩), ⟨[.none, .none, (.some (vs (u (nat_lit 1819042115)) (nat_lit 482))), (.some (vs (u (nat_lit 1819042115)) (nat_lit 490))), (.some (.builtin "object.__new__")), (.some (.bool true))]⟩⟩
noncomputable def o240 : Obj := ⟨(.type "getset_descriptor"), .none, (.fields ⟨[(vs (u (nat_lit 6872339526709436255)) (nat_lit 510)), (.ref (nat_lit 239)), (.builtin "function.__dict__"), (.builtin "function.__dict__#set")]⟩), ⟨[]⟩⟩
noncomputable def o241 : Obj := ⟨(.type "getset_descriptor"), .none, (.fields ⟨[(vs (u (nat_lit 115298466557181117500710751)) (nat_lit 512)), (.ref (nat_lit 239)), (.builtin "ExceptionGroup.__weakref__"), .none]⟩), ⟨[]⟩⟩
noncomputable def o242 : Obj := ⟨(.type "super"), .none, (.fields ⟨[(.ref (nat_lit 239)), (.ref (nat_lit 239)), (.ref (nat_lit 239))]⟩), ⟨[]⟩⟩
noncomputable def o243 : Obj := ⟨(.type "builtin_function_or_method"), .none, (.fields ⟨[(.builtin "object.__init_subclass__"), (.ref (nat_lit 239))]⟩), ⟨[]⟩⟩
noncomputable def o246 (P : Params) : Obj := ⟨(.type "dict"), .none, (.dict ⟨[en P (u (nat_lit 450384564904988244795231)) (nat_lit 524) (vs (u (nat_lit 39267333920436592655438326915056458229110)) (nat_lit 349)), en P (u (nat_lit 29516402862621713203914170207)) (nat_lit 526) (vs (u (nat_lit 28554821421198403)) (nat_lit 525)), en P (u (nat_lit 495203858965168609907421719000670047)) (nat_lit 528) (vi (nat_lit 67) (nat_lit 527)), en P (u (nat_lit 6872339552563453791)) (nat_lit 539) (.ref (nat_lit 258)), en P (u (nat_lit 139387583093331537335747288891456728448373227741023)) (nat_lit 545) (.ref (nat_lit 259))]⟩ (nat_lit 5)), ⟨[]⟩⟩
noncomputable def o248 : Obj := ⟨.none, .none, (.fields ⟨[(vi (nat_lit 69) (nat_lit 0)), (vi (nat_lit 4) (nat_lit 0)), (.ref (nat_lit 257))]⟩), ⟨[]⟩⟩
noncomputable def o249 : Obj := ⟨(.type "code"), .none, (.fields ⟨[(vs (u (nat_lit 28554821421198403)) (nat_lit 519)), (vs (u (nat_lit 28554821421198403)) (nat_lit 520)), (vs (u (nat_lit 9621326145873605890393926034223)) (nat_lit 521)), (vi (nat_lit 67) (nat_lit 0)), (vi (nat_lit 0) (nat_lit 0)), (vi (nat_lit 0) (nat_lit 0)), (vi (nat_lit 0) (nat_lit 0)), (vi (nat_lit 0) (nat_lit 0)), (.ref (nat_lit 247)), (.bool false), (vi (nat_lit 181) (nat_lit 0)), (.ref (nat_lit 248)), .none, .none, .none, .none, (vi (nat_lit 522) (nat_lit 0)), (vi (nat_lit 67) (nat_lit 0)), (vs (u (nat_lit 9621326145873605890393926034223)) (nat_lit 523))]⟩), ⟨[]⟩⟩
noncomputable def o250 : Obj := ⟨(.type "frame"), .none, .plain, ⟨[(.some (.ref (nat_lit 249))), (.some (.ref (nat_lit 3))), (.some (.ref (nat_lit 246))), .none, (.some (vs (u (nat_lit 39267333920436592655438326915056458229110)) (nat_lit 349))), .none, (.some (.ref (nat_lit 0)))]⟩⟩
noncomputable def o254 : Obj := ⟨(.type "tuple"), .none, (.seq ⟨[(vs (u (nat_lit 1718379891)) (nat_lit 532)), (vs (u (nat_lit 32488788025569126)) (nat_lit 533)), (vs (u (nat_lit 2036625250)) (nat_lit 534)), (vs (u (nat_lit 7761509)) (nat_lit 535)), (vs (u (nat_lit 495841473633)) (nat_lit 536))]⟩ (nat_lit 0)), ⟨[]⟩⟩
noncomputable def o256 : Obj := ⟨.none, .none, (.func (fO (st2 (nat_lit 14) (nat_lit 0)) false (u (nat_lit 126772288913769642814103950470111259715)) (nat_lit 0) .none .none .none .none .none .none .none (nat_lit 0))), ⟨[]⟩⟩
noncomputable def o257 : Obj := ⟨(.type "code"), .none, (.fields ⟨[(vs (u (nat_lit 6872339552563453791)) (nat_lit 529)), (vs (u (nat_lit 126772288913769642814103950470111259715)) (nat_lit 530)), (vs (u (nat_lit 9621326145873605890393926034223)) (nat_lit 531)), (vi (nat_lit 69) (nat_lit 0)), (vi (nat_lit 5) (nat_lit 0)), (vi (nat_lit 0) (nat_lit 0)), (vi (nat_lit 0) (nat_lit 0)), (vi (nat_lit 3) (nat_lit 0)), (.ref (nat_lit 252)), (.bool true), (vi (nat_lit 181) (nat_lit 0)), (.ref (nat_lit 253)), .none, (.ref (nat_lit 254)), (.ref (nat_lit 255)), (.ref (nat_lit 256)), (vi (nat_lit 537) (nat_lit 0)), (vi (nat_lit 69) (nat_lit 0)), (vs (u (nat_lit 9621326145873605890393926034223)) (nat_lit 538))]⟩), ⟨[]⟩⟩
noncomputable def o258 : Obj := ⟨(.type "function"), .none, (.func (fO (st2 (nat_lit 14) (nat_lit 0)) false (u (nat_lit 126772288913769642814103950470111259715)) (nat_lit 3) (.ref (nat_lit 251)) .none .none (vs (u (nat_lit 39267333920436592655438326915056458229110)) (nat_lit 349)) .none (.ref (nat_lit 257)) .none (nat_lit 0))), ⟨[]⟩⟩
noncomputable def o259 : Obj := ⟨(.type "tuple"), .none, (.seq ⟨[(vs (u (nat_lit 495841473633)) (nat_lit 540)), (vs (u (nat_lit 2036625250)) (nat_lit 541)), (vs (u (nat_lit 7761509)) (nat_lit 542)), (vs (u (nat_lit 32488788025569126)) (nat_lit 543)), (vs (u (nat_lit 1684957547)) (nat_lit 544))]⟩ (nat_lit 0)), ⟨[]⟩⟩
noncomputable def o260 (P : Params) : Obj := ⟨(.type "dict"), .none, (.dict ⟨[en P (u (nat_lit 450384564904988244795231)) (nat_lit 524) (vs (u (nat_lit 39267333920436592655438326915056458229110)) (nat_lit 349)), en P (u (nat_lit 495203858965168609907421719000670047)) (nat_lit 528) (vi (nat_lit 67) (nat_lit 527)), en P (u (nat_lit 6872339552563453791)) (nat_lit 539) (.ref (nat_lit 258)), en P (u (nat_lit 139387583093331537335747288891456728448373227741023)) (nat_lit 545) (.ref (nat_lit 259)), en P (u (nat_lit 6872339526709436255)) (nat_lit 547) (.ref (nat_lit 262)), en P (u (nat_lit 115298466557181117500710751)) (nat_lit 549) (.ref (nat_lit 263)), en P (u (nat_lit 26845003462762335)) (nat_lit 550) .none]⟩ (nat_lit 4)), ⟨[]⟩⟩
noncomputable def o261 : Obj := ⟨(.type "type"), .none, (.cls ⟨(u (nat_lit 28554821421198403)), [(.type "object")], [(.ref (nat_lit 261)), (.type "object")], (nat_lit 260), (u (nat_lit 28554821421198403)), true, [], [], false, .none, false⟩), ⟨[.none, .none, (.some (vs (u (nat_lit 28554821421198403)) (nat_lit 517))), (.some (vs (u (nat_lit 28554821421198403)) (nat_lit 525))), (.some (.builtin "object.__new__")), (.some (.bool true))]⟩⟩
noncomputable def o262 : Obj := ⟨(.type "getset_descriptor"), .none, (.fields ⟨[(vs (u (nat_lit 6872339526709436255)) (nat_lit 546)), (.ref (nat_lit 261)), (.builtin "function.__dict__"), (.builtin "function.__dict__#set")]⟩), ⟨[]⟩⟩
noncomputable def o263 : Obj := ⟨(.type "getset_descriptor"), .none, (.fields ⟨[(vs (u (nat_lit 115298466557181117500710751)) (nat_lit 548)), (.ref (nat_lit 261)), (.builtin "ExceptionGroup.__weakref__"), .none]⟩), ⟨[]⟩⟩
noncomputable def o264 : Obj := ⟨(.type "super"), .none, (.fields ⟨[(.ref (nat_lit 261)), (.ref (nat_lit 261)), (.ref (nat_lit 261))]⟩), ⟨[]⟩⟩
noncomputable def o265 : Obj := ⟨(.type "builtin_function_or_method"), .none, (.fields ⟨[(.builtin "object.__init_subclass__"), (.ref (nat_lit 261))]⟩), ⟨[]⟩⟩
noncomputable def o268 (P : Params) : Obj := ⟨(.type "dict"), .none, (.dict ⟨[en P (u (nat_lit 450384564904988244795231)) (nat_lit 560) (vs (u (nat_lit 39267333920436592655438326915056458229110)) (nat_lit 349)), en P (u (nat_lit 29516402862621713203914170207)) (nat_lit 562) (vs (u (nat_lit 31078196194145602)) (nat_lit 561)), en P (u (nat_lit 495203858965168609907421719000670047)) (nat_lit 564) (vi (nat_lit 75) (nat_lit 563)), en P (u (nat_lit 6872339552563453791)) (nat_lit 575) (.ref (nat_lit 279)), en P (u (nat_lit 139387583093331537335747288891456728448373227741023)) (nat_lit 582) (.ref (nat_lit 280))]⟩ (nat_lit 5)), ⟨[]⟩⟩
noncomputable def o270 : Obj := ⟨.none, .none, (.fields ⟨[(vi (nat_lit 77) (nat_lit 0)), (vi (nat_lit 4) (nat_lit 0)), (.ref (nat_lit 278))]⟩), ⟨[]⟩⟩
noncomputable def o271 : Obj := ⟨(.type "code"), .none, (.fields ⟨[(vs (u (nat_lit 31078196194145602)) (nat_lit 555)), (vs (u (nat_lit 31078196194145602)) (nat_lit 556)), (vs (u (nat_lit 9621326145873605890393926034223)) (nat_lit 557)), (vi (nat_lit 75) (nat_lit 0)), (vi (nat_lit 0) (nat_lit 0)), (vi (nat_lit 0) (nat_lit 0)), (vi (nat_lit 0) (nat_lit 0)), (vi (nat_lit 0) (nat_lit 0)), (.ref (nat_lit 269)), (.bool false), (vi (nat_lit 181) (nat_lit 0)), (.ref (nat_lit 270)), .none, .none, .none, .none, (vi (nat_lit 558) (nat_lit 0)), (vi (nat_lit 75) (nat_lit 0)), (vs (u (nat_lit 9621326145873605890393926034223)) (nat_lit 559))]⟩), ⟨[]⟩⟩
noncomputable def o272 : Obj := ⟨(.type "frame"), .none, .plain, ⟨[(.some (.ref (nat_lit 271))), (.some (.ref (nat_lit 3))), (.some (.ref (nat_lit 268))), .none, (.some (vs (u (nat_lit 39267333920436592655438326915056458229110)) (nat_lit 349))), .none, (.some (.ref (nat_lit 0)))]⟩⟩
noncomputable def o275 : Obj := ⟨(.type "tuple"), .none, (.seq ⟨[(vs (u (nat_lit 1718379891)) (nat_lit 568)), (vs (u (nat_lit 1701667182)) (nat_lit 569)), (vs (u (nat_lit 30506402751803507)) (nat_lit 570)), (vs (u (nat_lit 28262)) (nat_lit 571)), (vs (u (nat_lit 483006575207)) (nat_lit 572))]⟩ (nat_lit 0)), ⟨[]⟩⟩
noncomputable def o277 : Obj := ⟨.none, .none, (.func (fO (st2 (nat_lit 15) (nat_lit 0)) false (u (nat_lit 126772288913769642814106473844884206914)) (nat_lit 0) .none .none .none .none .none .none .none (nat_lit 0))), ⟨[]⟩⟩
noncomputable def o278 : Obj := ⟨(.type "code"), .none, (.fields ⟨[(vs (u (nat_lit 6872339552563453791)) (nat_lit 565)), (vs (u (nat_lit 126772288913769642814106473844884206914)) (nat_lit 566)), (vs (u (nat_lit 9621326145873605890393926034223)) (nat_lit 567)), (vi (nat_lit 77) (nat_lit 0)), (vi (nat_lit 5) (nat_lit 0)), (vi (nat_lit 0) (nat_lit 0)), (vi (nat_lit 0) (nat_lit 0)), (vi (nat_lit 3) (nat_lit 0)), (.ref (nat_lit 273)), (.bool true), (vi (nat_lit 181) (nat_lit 0)), (.ref (nat_lit 274)), .none, (.ref (nat_lit 275)), (.ref (nat_lit 276)), (.ref (nat_lit 277)), (vi (nat_lit 573) (nat_lit 0)), (vi (nat_lit 77) (nat_lit 0)), (vs (u (nat_lit 9621326145873605890393926034223)) (nat_lit 574))]⟩), ⟨[]⟩⟩
noncomputable def o279 : Obj := ⟨(.type "function"), .none, (.func (fO (st2 (nat_lit 15) (nat_lit 0)) false (u (nat_lit 126772288913769642814106473844884206914)) (nat_lit 3) .none .none .none (vs (u (nat_lit 39267333920436592655438326915056458229110)) (nat_lit 349)) .none (.ref (nat_lit 278)) .none (nat_lit 0))), ⟨[]⟩⟩
noncomputable def o280 : Obj := ⟨(.type "tuple"), .none, (.seq ⟨[(vs (u (nat_lit 495841473633)) (nat_lit 576)), (vs (u (nat_lit 28262)) (nat_lit 577)), (vs (u (nat_lit 483006575207)) (nat_lit 578)), (vs (u (nat_lit 1684957547)) (nat_lit 579)), (vs (u (nat_lit 1701667182)) (nat_lit 580)), (vs (u (nat_lit 30506402751803507)) (nat_lit 581))]⟩ (nat_lit 0)), ⟨[]⟩⟩
noncomputable def o281 (P : Params) : Obj := ⟨(.type "dict"), .none, (.dict ⟨[en P (u (nat_lit 450384564904988244795231)) (nat_lit 560) (vs (u (nat_lit 39267333920436592655438326915056458229110)) (nat_lit 349)), en P (u (nat_lit 495203858965168609907421719000670047)) (nat_lit 564) (vi (nat_lit 75) (nat_lit 563)), en P (u (nat_lit 6872339552563453791)) (nat_lit 575) (.ref (nat_lit 279)), en P (u (nat_lit 139387583093331537335747288891456728448373227741023)) (nat_lit 582) (.ref (nat_lit 280)), en P (u (nat_lit 6872339526709436255)) (nat_lit 584) (.ref (nat_lit 283)), en P (u (nat_lit 115298466557181117500710751)) (nat_lit 586) (.ref (nat_lit 284)), en P (u (nat_lit 26845003462762335)) (nat_lit 587) .none]⟩ (nat_lit 4)), ⟨[]⟩⟩
noncomputable def o282 : Obj := ⟨(.type "type"), .none, (.cls ⟨(u (nat_lit 31078196194145602)), [(.type "object")], [(.ref (nat_lit 282)), (.type "object")], (nat_lit 281), (u (nat_lit 31078196194145602)), true, [], [], false, .none, false⟩), ⟨[.none, .none, (.some (vs (u (nat_lit 31078196194145602)) (nat_lit 553))), (.some (vs (u (nat_lit 31078196194145602)) (nat_lit 561))), (.some (.builtin "object.__new__")), (.some (.bool true))]⟩⟩
noncomputable def o283 : Obj := ⟨(.type "getset_descriptor"), .none, (.fields ⟨[(vs (u (nat_lit 6872339526709436255)) (nat_lit 583)), (.ref (nat_lit 282)), (.builtin "function.__dict__"), (.builtin "function.__dict__#set")]⟩), ⟨[]⟩⟩
noncomputable def o284 : Obj := ⟨(.type "getset_descriptor"), .none, (.fields ⟨[(vs (u (nat_lit 115298466557181117500710751)) (nat_lit 585)), (.ref (nat_lit 282)), (.builtin "ExceptionGroup.__weakref__"), .none]⟩), ⟨[]⟩⟩
noncomputable def o285 : Obj := ⟨(.type "super"), .none, (.fields ⟨[(.ref (nat_lit 282)), (.ref (nat_lit 282)), (.ref (nat_lit 282))]⟩), ⟨[]⟩⟩
noncomputable def o286 : Obj := ⟨(.type "builtin_function_or_method"), .none, (.fields ⟨[(.builtin "object.__init_subclass__"), (.ref (nat_lit 282))]⟩), ⟨[]⟩⟩
noncomputable def o289 (P : Params) : Obj := ⟨(.type "dict"), .none, (.dict ⟨[en P (u (nat_lit 450384564904988244795231)) (nat_lit 597) (vs (u (nat_lit 39267333920436592655438326915056458229110)) (nat_lit 349)), en P (u (nat_lit 29516402862621713203914170207)) (nat_lit 599) (vs (u (nat_lit 140756726394926624662777413)) (nat_lit 598)), en P (u (nat_lit 495203858965168609907421719000670047)) (nat_lit 601) (vi (nat_lit 84) (nat_lit 600)), en P (u (nat_lit 6872339552563453791)) (nat_lit 611) (.ref (nat_lit 301)), en P (u (nat_lit 139387583093331537335747288891456728448373227741023)) (nat_lit 619) (.ref (nat_lit 302))]⟩ (nat_lit 5)), ⟨[]⟩⟩
noncomputable def o291 : Obj := ⟨.none, .none, (.fields ⟨[(vi (nat_lit 86) (nat_lit 0)), (vi (nat_lit 4) (nat_lit 0)), (.ref (nat_lit 300))]⟩), ⟨[]⟩⟩
noncomputable def o292 : Obj := ⟨(.type "code"), .none, (.fields ⟨[(vs (u (nat_lit 140756726394926624662777413)) (nat_lit 592)), (vs (u (nat_lit 140756726394926624662777413)) (nat_lit 593)), (vs (u (nat_lit 9621326145873605890393926034223)) (nat_lit 594)), (vi (nat_lit 84) (nat_lit 0)), (vi (nat_lit 0) (nat_lit 0)), (vi (nat_lit 0) (nat_lit 0)), (vi (nat_lit 0) (nat_lit 0)), (vi (nat_lit 0) (nat_lit 0)), (.ref (nat_lit 290)), (.bool false), (vi (nat_lit 181) (nat_lit 0)), (.ref (nat_lit 291)), .none, .none, .none, .none, (vi (nat_lit 595) (nat_lit 0)), (vi (nat_lit 84) (nat_lit 0)), (vs (u (nat_lit 9621326145873605890393926034223)) (nat_lit 596))]⟩), ⟨[]⟩⟩
noncomputable def o293 : Obj := ⟨(.type "frame"), .none, .plain, ⟨[(.some (.ref (nat_lit 292))), (.some (.ref (nat_lit 3))), (.some (.ref (nat_lit 289))), .none, (.some (vs (u (nat_lit 39267333920436592655438326915056458229110)) (nat_lit 349))), .none, (.some (.ref (nat_lit 0)))]⟩⟩
noncomputable def o297 : Obj := ⟨(.type "tuple"), .none, (.seq ⟨[(vs (u (nat_lit 1718379891)) (nat_lit 605)), (vs (u (nat_lit 125779768604014)) (nat_lit 606)), (vs (u (nat_lit 128017497219440)) (nat_lit 607)), (vs (u (nat_lit 495841473633)) (nat_lit 608))]⟩ (nat_lit 0)), ⟨[]⟩⟩
noncomputable def o299 : Obj := ⟨.none, .none, (.func (fO (st2 (nat_lit 16) (nat_lit 0)) false (u (nat_lit 544482834923703979964195989515779445199937629765)) (nat_lit 0) .none .none .none .none .none .none .none (nat_lit 0))), ⟨[]⟩⟩
noncomputable def o300 : Obj := ⟨(.type "code"), .none, (.fields ⟨[(vs (u (nat_lit 6872339552563453791)) (nat_lit 602)), (vs (u (nat_lit 544482834923703979964195989515779445199937629765)) (nat_lit 603)), (vs (u (nat_lit 9621326145873605890393926034223)) (nat_lit 604)), (vi (nat_lit 86) (nat_lit 0)), (vi (nat_lit 4) (nat_lit 0)), (vi (nat_lit 0) (nat_lit 0)), (vi (nat_lit 0) (nat_lit 0)), (vi (nat_lit 3) (nat_lit 0)), (.ref (nat_lit 295)), (.bool true), (vi (nat_lit 181) (nat_lit 0)), (.ref (nat_lit 296)), .none, (.ref (nat_lit 297)), (.ref (nat_lit 298)), (.ref (nat_lit 299)), (vi (nat_lit 609) (nat_lit 0)), (vi (nat_lit 86) (nat_lit 0)), (vs (u (nat_lit 9621326145873605890393926034223)) (nat_lit 610))]⟩), ⟨[]⟩⟩
noncomputable def o301 : Obj := ⟨(.type "function"), .none, (.func (fO (st2 (nat_lit 16) (nat_lit 0)) false (u (nat_lit 544482834923703979964195989515779445199937629765)) (nat_lit 3) (.ref (nat_lit 294)) .none .none (vs (u (nat_lit 39267333920436592655438326915056458229110)) (nat_lit 349)) .none (.ref (nat_lit 300)) .none (nat_lit 0))), ⟨[]⟩⟩
noncomputable def o302 : Obj := ⟨(.type "tuple"), .none, (.seq ⟨[(vs (u (nat_lit 495841473633)) (nat_lit 612)), (vs (u (nat_lit 435626799718)) (nat_lit 613)), (vs (u (nat_lit 1684957547)) (nat_lit 614)), (vs (u (nat_lit 110386756153196)) (nat_lit 615)), (vs (u (nat_lit 495722917740)) (nat_lit 616)), (vs (u (nat_lit 125779768604014)) (nat_lit 617)), (vs (u (nat_lit 128017497219440)) (nat_lit 618))]⟩ (nat_lit 0)), ⟨[]⟩⟩
noncomputable def o303 (P : Params) : Obj := ⟨(.type "dict"), .none, (.dict ⟨[en P (u (nat_lit 450384564904988244795231)) (nat_lit 597) (vs (u (nat_lit 39267333920436592655438326915056458229110)) (nat_lit 349)), en P (u (nat_lit 495203858965168609907421719000670047)) (nat_lit 601) (vi (nat_lit 84) (nat_lit 600)), en P (u (nat_lit 6872339552563453791)) (nat_lit 611) (.ref (nat_lit 301)), en P (u (nat_lit 139387583093331537335747288891456728448373227741023)) (nat_lit 619) (.ref (nat_lit 302)), en P (u (nat_lit 6872339526709436255)) (nat_lit 621) (.ref (nat_lit 305)), en P (u (nat_lit 115298466557181117500710751)) (nat_lit 623) (.ref (nat_lit 306)), en P (u (nat_lit 26845003462762335)) (nat_lit 624) .none]⟩ (nat_lit 4)), ⟨[]⟩⟩
noncomputable def o304 : Obj := ⟨(.type "type"), .none, (.cls ⟨(u (nat_lit 140756726394926624662777413)), [(.type "object")], [(.ref (nat_lit 304)), (.type "object")], (nat_lit 303), (u (nat_lit 140756726394926624662777413)), true, [], [], false, .none, false⟩), ⟨[.none, .none, (.some (vs (u (nat_lit 140756726394926624662777413)) (nat_lit 590))), (.some (vs (u (nat_lit 140756726394926624662777413)) (nat_lit 598))), (.some (.builtin "object.__new__")), (.some (.bool true))]⟩⟩
noncomputable def o305 : Obj := ⟨(.type "getset_descriptor"), .none, (.fields ⟨[(vs (u (nat_lit 6872339526709436255)) (nat_lit 620)), (.ref (nat_lit 304)), (.builtin "function.__dict__"), (.builtin "function.__dict__#set")]⟩), ⟨[]⟩⟩
noncomputable def o306 : Obj := ⟨(.type "getset_descriptor"), .none, (.fields ⟨[(vs (u (nat_lit 115298466557181117500710751)) (nat_lit 622)), (.ref (nat_lit 304)), (.builtin "ExceptionGroup.__weakref__"), .none]⟩), ⟨[]⟩⟩
noncomputable def o307 : Obj := ⟨(.type "super"), .none, (.fields ⟨[(.ref (nat_lit 304)), (.ref (nat_lit 304)), (.ref (nat_lit 304))]⟩), ⟨[]⟩⟩
noncomputable def o308 : Obj := ⟨(.type "builtin_function_or_method"), .none, (.fields ⟨[(.builtin "object.__init_subclass__"), (.ref (nat_lit 304))]⟩), ⟨[]⟩⟩
noncomputable def o311 (P : Params) : Obj := ⟨(.type "dict"), .none, (.dict ⟨[en P (u (nat_lit 450384564904988244795231)) (nat_lit 634) (vs (u (nat_lit 39267333920436592655438326915056458229110)) (nat_lit 349)), en P (u (nat_lit 29516402862621713203914170207)) (nat_lit 636) (vs (u (nat_lit 28555869292556880)) (nat_lit 635)), en P (u (nat_lit 495203858965168609907421719000670047)) (nat_lit 638) (vi (nat_lit 94) (nat_lit 637)), en P (u (nat_lit 6872339552563453791)) (nat_lit 647) (.ref (nat_lit 322)), en P (u (nat_lit 139387583093331537335747288891456728448373227741023)) (nat_lit 655) (.ref (nat_lit 323))]⟩ (nat_lit 5)), ⟨[]⟩⟩
noncomputable def o313 : Obj := ⟨.none, .none, (.fields ⟨[(vi (nat_lit 96) (nat_lit 0)), (vi (nat_lit 4) (nat_lit 0)), (.ref (nat_lit 321))]⟩), ⟨[]⟩⟩
noncomputable def o314 : Obj := ⟨(.type "code"), .none, (.fields ⟨[(vs (u (nat_lit 28555869292556880)) (nat_lit 629)), (vs (u (nat_lit 28555869292556880)) (nat_lit 630)), (vs (u (nat_lit 9621326145873605890393926034223)) (nat_lit 631)), (vi (nat_lit 94) (nat_lit 0)), (vi (nat_lit 0) (nat_lit 0)), (vi (nat_lit 0) (nat_lit 0)), (vi (nat_lit 0) (nat_lit 0)), (vi (nat_lit 0) (nat_lit 0)), (.ref (nat_lit 312)), (.bool false), (vi (nat_lit 181) (nat_lit 0)), (.ref (nat_lit 313)), .none, .none, .none, .none, (vi (nat_lit 632) (nat_lit 0)), (vi (nat_lit 94) (nat_lit 0)), (vs (u (nat_lit 9621326145873605890393926034223)) (nat_lit 633))]⟩), ⟨[]⟩⟩
noncomputable def o315 : Obj := ⟨(.type "frame"), .none, .plain, ⟨[(.some (.ref (nat_lit 314))), (.some (.ref (nat_lit 3))), (.some (.ref (nat_lit 311))), .none, (.some (vs (u (nat_lit 39267333920436592655438326915056458229110)) (nat_lit 349))), .none, (.some (.ref (nat_lit 0)))]⟩⟩
noncomputable def o318 : Obj := ⟨(.type "tuple"), .none, (.seq ⟨[(vs (u (nat_lit 1718379891)) (nat_lit 642)), (vs (u (nat_lit 1919973477)) (nat_lit 643)), (vs (u (nat_lit 7761509)) (nat_lit 644))]⟩ (nat_lit 0)), ⟨[]⟩⟩
noncomputable def o320 : Obj := ⟨.none, .none, (.func (fO (st2 (nat_lit 17) (nat_lit 0)) false (u (nat_lit 126772288913769642814103951517982618192)) (nat_lit 0) .none .none .none .none .none .none .none (nat_lit 0))), ⟨[]⟩⟩
noncomputable def o321 : Obj := ⟨(.type "code"), .none, (.fields ⟨[(vs (u (nat_lit 6872339552563453791)) (nat_lit 639)), (vs (u (nat_lit 126772288913769642814103951517982618192)) (nat_lit 640)), (vs (u (nat_lit 9621326145873605890393926034223)) (nat_lit 641)), (vi (nat_lit 96) (nat_lit 0)), (vi (nat_lit 3) (nat_lit 0)), (vi (nat_lit 0) (nat_lit 0)), (vi (nat_lit 0) (nat_lit 0)), (vi (nat_lit 3) (nat_lit 0)), (.ref (nat_lit 316)), (.bool true), (vi (nat_lit 181) (nat_lit 0)), (.ref (nat_lit 317)), .none, (.ref (nat_lit 318)), (.ref (nat_lit 319)), (.ref (nat_lit 320)), (vi (nat_lit 645) (nat_lit 0)), (vi (nat_lit 96) (nat_lit 0)), (vs (u (nat_lit 9621326145873605890393926034223)) (nat_lit 646))]⟩), ⟨[]⟩⟩
noncomputable def o322 : Obj := ⟨(.type "function"), .none, (.func (fO (st2 (nat_lit 17) (nat_lit 0)) false (u (nat_lit 126772288913769642814103951517982618192)) (nat_lit 3) .none .none .none (vs (u (nat_lit 39267333920436592655438326915056458229110)) (nat_lit 349)) .none (.ref (nat_lit 321)) .none (nat_lit 0))), ⟨[]⟩⟩
noncomputable def o323 : Obj := ⟨(.type "tuple"), .none, (.seq ⟨[(vs (u (nat_lit 495841473633)) (nat_lit 648)), (vs (u (nat_lit 32770348699510116)) (nat_lit 649)), (vs (u (nat_lit 7761509)) (nat_lit 650)), (vs (u (nat_lit 1919973477)) (nat_lit 651)), (vs (u (nat_lit 1684957547)) (nat_lit 652)), (vs (u (nat_lit 435744240755)) (nat_lit 653)), (vs (u (nat_lit 435761734006)) (nat_lit 654))]⟩ (nat_lit 0)), ⟨[]⟩⟩
noncomputable def o324 (P : Params) : Obj := ⟨(.type "dict"), .none, (.dict ⟨[en P (u (nat_lit 450384564904988244795231)) (nat_lit 634) (vs (u (nat_lit 39267333920436592655438326915056458229110)) (nat_lit 349)), en P (u (nat_lit 495203858965168609907421719000670047)) (nat_lit 638) (vi (nat_lit 94) (nat_lit 637)), en P (u (nat_lit 6872339552563453791)) (nat_lit 647) (.ref (nat_lit 322)), en P (u (nat_lit 139387583093331537335747288891456728448373227741023)) (nat_lit 655) (.ref (nat_lit 323)), en P (u (nat_lit 6872339526709436255)) (nat_lit 657) (.ref (nat_lit 326)), en P (u (nat_lit 115298466557181117500710751)) (nat_lit 659) (.ref (nat_lit 327)), en P (u (nat_lit 26845003462762335)) (nat_lit 660) .none]⟩ (nat_lit 4)), ⟨[]⟩⟩
noncomputable def o325 : Obj := ⟨(.type "type"), .none, (.cls ⟨(u (nat_lit 28555869292556880)), [(.type "object")], [(.ref (nat_lit 325)), (.type "object")], (nat_lit 324), (u (nat_lit 28555869292556880)), true, [], [], false, .none, false⟩), ⟨[.none, .none, (.some (vs (u (nat_lit 28555869292556880)) (nat_lit 627))), (.some (vs (u (nat_lit 28555869292556880)) (nat_lit 635))), (.some (.builtin "object.__new__")), (.some (.bool true))]⟩⟩
noncomputable def o326 : Obj := ⟨(.type "getset_descriptor"), .none, (.fields ⟨[(vs (u (nat_lit 6872339526709436255)) (nat_lit 656)), (.ref (nat_lit 325)), (.builtin "function.__dict__"), (.builtin "function.__dict__#set")]⟩), ⟨[]⟩⟩
noncomputable def o327 : Obj := ⟨(.type "getset_descriptor"), .none, (.fields ⟨[(vs (u (nat_lit 115298466557181117500710751)) (nat_lit 658)), (.ref (nat_lit 325)), (.builtin "ExceptionGroup.__weakref__"), .none]⟩), ⟨[]⟩⟩
noncomputable def o328 : Obj := ⟨(.type "super"), .none, (.fields ⟨[(.ref (nat_lit 325)), (.ref (nat_lit 325)), (.ref (nat_lit 325))]⟩), ⟨[]⟩⟩
noncomputable def o329 : Obj := ⟨(.type "builtin_function_or_method"), .none, (.fields ⟨[(.builtin "object.__init_subclass__"), (.ref (nat_lit 325))]⟩), ⟨[]⟩⟩
noncomputable def o332 (P : Params) : Obj := ⟨(.type "dict"), .none, (.dict ⟨[en P (u (nat_lit 450384564904988244795231)) (nat_lit 670) (vs (u (nat_lit 39267333920436592655438326915056458229110)) (nat_lit 349)), en P (u (nat_lit 29516402862621713203914170207)) (nat_lit 672) (vs (u (nat_lit 1937010500)) (nat_lit 671)), en P (u (nat_lit 495203858965168609907421719000670047)) (nat_lit 674) (vi (nat_lit 104) (nat_lit 673)), en P (u (nat_lit 6872339552563453791)) (nat_lit 682) (.ref (nat_lit 343)), en P (u (nat_lit 139387583093331537335747288891456728448373227741023)) (nat_lit 686) (.ref (nat_lit 344))]⟩ (nat_lit 5)), ⟨[]⟩⟩
noncomputable def o334 : Obj := ⟨.none, .none, (.fields ⟨[(vi (nat_lit 106) (nat_lit 0)), (vi (nat_lit 4) (nat_lit 0)), (.ref (nat_lit 342))]⟩), ⟨[]⟩⟩
noncomputable def o335 : Obj := ⟨(.type "code"), .none, (.fields ⟨[(vs (u (nat_lit 1937010500)) (nat_lit 665)), (vs (u (nat_lit 1937010500)) (nat_lit 666)), (vs (u (nat_lit 9621326145873605890393926034223)) (nat_lit 667)), (vi (nat_lit 104) (nat_lit 0)), (vi (nat_lit 0) (nat_lit 0)), (vi (nat_lit 0) (nat_lit 0)), (vi (nat_lit 0) (nat_lit 0)), (vi (nat_lit 0) (nat_lit 0)), (.ref (nat_lit 333)), (.bool false), (vi (nat_lit 181) (nat_lit 0)), (.ref (nat_lit 334)), .none, .none, .none, .none, (vi (nat_lit 668) (nat_lit 0)), (vi (nat_lit 104) (nat_lit 0)), (vs (u (nat_lit 9621326145873605890393926034223)) (nat_lit 669))]⟩), ⟨[]⟩⟩
noncomputable def o336 : Obj := ⟨(.type "frame"), .none, .plain, ⟨[(.some (.ref (nat_lit 335))), (.some (.ref (nat_lit 3))), (.some (.ref (nat_lit 332))), .none, (.some (vs (u (nat_lit 39267333920436592655438326915056458229110)) (nat_lit 349))), .none, (.some (.ref (nat_lit 0)))]⟩⟩
noncomputable def o339 : Obj := ⟨(.type "tuple"), .none, (.seq ⟨[(vs (u (nat_lit 1718379891)) (nat_lit 678)), (vs (u (nat_lit 1936159329)) (nat_lit 679))]⟩ (nat_lit 0)), ⟨[]⟩⟩
noncomputable def o341 : Obj := ⟨.none, .none, (.func (fO (st2 (nat_lit 18) (nat_lit 0)) false (u (nat_lit 7556217248068430591470473604932)) (nat_lit 0) .none .none .none .none .none .none .none (nat_lit 0))), ⟨[]⟩⟩
noncomputable def o342 : Obj := ⟨(.type "code"), .none, (.fields ⟨[(vs (u (nat_lit 6872339552563453791)) (nat_lit 675)), (vs (u (nat_lit 7556217248068430591470473604932)) (nat_lit 676)), (vs (u (nat_lit 9621326145873605890393926034223)) (nat_lit 677)), (vi (nat_lit 106) (nat_lit 0)), (vi (nat_lit 2) (nat_lit 0)), (vi (nat_lit 0) (nat_lit 0)), (vi (nat_lit 0) (nat_lit 0)), (vi (nat_lit 3) (nat_lit 0)), (.ref (nat_lit 337)), (.bool true), (vi (nat_lit 181) (nat_lit 0)), (.ref (nat_lit 338)), .none, (.ref (nat_lit 339)), (.ref (nat_lit 340)), (.ref (nat_lit 341)), (vi (nat_lit 680) (nat_lit 0)), (vi (nat_lit 106) (nat_lit 0)), (vs (u (nat_lit 9621326145873605890393926034223)) (nat_lit 681))]⟩), ⟨[]⟩⟩
noncomputable def o343 : Obj := ⟨(.type "function"), .none, (.func (fO (st2 (nat_lit 18) (nat_lit 0)) false (u (nat_lit 7556217248068430591470473604932)) (nat_lit 3) .none .none .none (vs (u (nat_lit 39267333920436592655438326915056458229110)) (nat_lit 349)) .none (.ref (nat_lit 342)) .none (nat_lit 0))), ⟨[]⟩⟩
noncomputable def o344 : Obj := ⟨(.type "tuple"), .none, (.seq ⟨[(vs (u (nat_lit 1936159329)) (nat_lit 683)), (vs (u (nat_lit 495841473633)) (nat_lit 684)), (vs (u (nat_lit 1684957547)) (nat_lit 685))]⟩ (nat_lit 0)), ⟨[]⟩⟩
noncomputable def o345 (P : Params) : Obj := ⟨(.type "dict"), .none, (.dict ⟨[en P (u (nat_lit 450384564904988244795231)) (nat_lit 670) (vs (u (nat_lit 39267333920436592655438326915056458229110)) (nat_lit 349)), en P (u (nat_lit 495203858965168609907421719000670047)) (nat_lit 674) (vi (nat_lit 104) (nat_lit 673)), en P (u (nat_lit 6872339552563453791)) (nat_lit 682) (.ref (nat_lit 343)), en P (u (nat_lit 139387583093331537335747288891456728448373227741023)) (nat_lit 686) (.ref (nat_lit 344)), en P (u (nat_lit 6872339526709436255)) (nat_lit 688) (.ref (nat_lit 347)), en P (u (nat_lit 115298466557181117500710751)) (nat_lit 690) (.ref (nat_lit 348)), en P (u (nat_lit 26845003462762335)) (nat_lit 691) .none]⟩ (nat_lit 4)), ⟨[]⟩⟩
noncomputable def o346 : Obj := ⟨(.type "type"), .none, (.cls ⟨(u (nat_lit 1937010500)), [(.type "object")], [(.ref (nat_lit 346)), (.type "object")], (nat_lit 345), (u (nat_lit 1937010500)), true, [], [], false, .none, false⟩), ⟨[.none, .none, (.some (vs (u (nat_lit 1937010500)) (nat_lit 663))), (.some (vs (u (nat_lit 1937010500)) (nat_lit 671))), (.some (.builtin "object.__new__")), (.some (.bool true))]⟩⟩
noncomputable def o347 : Obj := ⟨(.type "getset_descriptor"), .none, (.fields ⟨[(vs (u (nat_lit 6872339526709436255)) (nat_lit 687)), (.ref (nat_lit 346)), (.builtin "function.__dict__"), (.builtin "function.__dict__#set")]⟩), ⟨[]⟩⟩
noncomputable def o348 : Obj := ⟨(.type "getset_descriptor"), .none, (.fields ⟨[(vs (u (nat_lit 115298466557181117500710751)) (nat_lit 689)), (.ref (nat_lit 346)), (.builtin "ExceptionGroup.__weakref__"), .none]⟩), ⟨[]⟩⟩
noncomputable def o349 : Obj := ⟨(.type "super"), .none, (.fields ⟨[(.ref (nat_lit 346)), (.ref (nat_lit 346)), (.ref (nat_lit 346))]⟩), ⟨[]⟩⟩
noncomputable def o350 : Obj := ⟨(.type "builtin_function_or_method"), .none, (.fields ⟨[(.builtin "object.__init_subclass__"), (.ref (nat_lit 346))]⟩), ⟨[]⟩⟩
noncomputable def o355 : Obj := ⟨.none, .none, (.func (fO (st1 (nat_lit 19)) false (u (nat_lit 1819047278)) (nat_lit 0) .none .none .none .none .none .none .none (nat_lit 0))), ⟨[]⟩⟩
noncomputable def o356 : Obj := ⟨(.type "code"), .none, (.fields ⟨[(vs (u (nat_lit 1819047278)) (nat_lit 694)), (vs (u (nat_lit 1819047278)) (nat_lit 695)), (vs (u (nat_lit 9621326145873605890393926034223)) (nat_lit 696)), (vi (nat_lit 110) (nat_lit 0)), (vi (nat_lit 0) (nat_lit 0)), (vi (nat_lit 0) (nat_lit 0)), (vi (nat_lit 0) (nat_lit 0)), (vi (nat_lit 3) (nat_lit 0)), (.ref (nat_lit 351)), (.bool true), (vi (nat_lit 181) (nat_lit 0)), (.ref (nat_lit 352)), .none, (.ref (nat_lit 353)), (.ref (nat_lit 354)), (.ref (nat_lit 355)), (vi (nat_lit 697) (nat_lit 0)), (vi (nat_lit 110) (nat_lit 0)), (vs (u (nat_lit 9621326145873605890393926034223)) (nat_lit 698))]⟩), ⟨[]⟩⟩
noncomputable def o357 : Obj := ⟨(.type "function"), .none, (.func (fO (st1 (nat_lit 19)) false (u (nat_lit 1819047278)) (nat_lit 3) .none .none .none (vs (u (nat_lit 39267333920436592655438326915056458229110)) (nat_lit 349)) .none (.ref (nat_lit 356)) .none (nat_lit 0))), ⟨[]⟩⟩
noncomputable def o362 : Obj := ⟨.none, .none, (.func (fO (st1 (nat_lit 20)) false (u (nat_lit 29113321788762477)) (nat_lit 0) .none .none .none .none .none .none .none (nat_lit 0))), ⟨[]⟩⟩
noncomputable def o363 : Obj := ⟨(.type "code"), .none, (.fields ⟨[(vs (u (nat_lit 29113321788762477)) (nat_lit 700)), (vs (u (nat_lit 29113321788762477)) (nat_lit 701)), (vs (u (nat_lit 9621326145873605890393926034223)) (nat_lit 702)), (vi (nat_lit 112) (nat_lit 0)), (vi (nat_lit 0) (nat_lit 0)), (vi (nat_lit 0) (nat_lit 0)), (vi (nat_lit 0) (nat_lit 0)), (vi (nat_lit 3) (nat_lit 0)), (.ref (nat_lit 358)), (.bool true), (vi (nat_lit 181) (nat_lit 0)), (.ref (nat_lit 359)), .none, (.ref (nat_lit 360)), (.ref (nat_lit 361)), (.ref (nat_lit 362)), (vi (nat_lit 703) (nat_lit 0)), (vi (nat_lit 112) (nat_lit 0)), (vs (u (nat_lit 9621326145873605890393926034223)) (nat_lit 704))]⟩), ⟨[]⟩⟩
noncomputable def o364 : Obj := ⟨(.type "function"), .none, (.func (fO (st1 (nat_lit 20)) false (u (nat_lit 29113321788762477)) (nat_lit 3) .none .none .none (vs (u (nat_lit 39267333920436592655438326915056458229110)) (nat_lit 349)) .none (.ref (nat_lit 363)) .none (nat_lit 0))), ⟨[]⟩⟩
noncomputable def o367 : Obj := ⟨(.type "tuple"), .none, (.seq ⟨[(vs (u (nat_lit 495756604521)) (nat_lit 709))]⟩ (nat_lit 0)), ⟨[]⟩⟩
noncomputable def o369 : Obj := ⟨.none, .none, (.func (fO (st1 (nat_lit 21)) false (u (nat_lit 2110239401768200005731)) (nat_lit 0) .none .none .none .none .none .none .none (nat_lit 0))), ⟨[]⟩⟩
noncomputable def o370 : Obj := ⟨(.type "code"), .none, (.fields ⟨[(vs (u (nat_lit 2110239401768200005731)) (nat_lit 706)), (vs (u (nat_lit 2110239401768200005731)) (nat_lit 707)), (vs (u (nat_lit 9621326145873605890393926034223)) (nat_lit 708)), (vi (nat_lit 114) (nat_lit 0)), (vi (nat_lit 1) (nat_lit 0)), (vi (nat_lit 0) (nat_lit 0)), (vi (nat_lit 0) (nat_lit 0)), (vi (nat_lit 3) (nat_lit 0)), (.ref (nat_lit 365)), (.bool true), (vi (nat_lit 181) (nat_lit 0)), (.ref (nat_lit 366)), .none, (.ref (nat_lit 367)), (.ref (nat_lit 368)), (.ref (nat_lit 369)), (vi (nat_lit 710) (nat_lit 0)), (vi (nat_lit 114) (nat_lit 0)), (vs (u (nat_lit 9621326145873605890393926034223)) (nat_lit 711))]⟩), ⟨[]⟩⟩
noncomputable def o371 : Obj := ⟨(.type "function"), .none, (.func (fO (st1 (nat_lit 21)) false (u (nat_lit 2110239401768200005731)) (nat_lit 3) .none .none .none (vs (u (nat_lit 39267333920436592655438326915056458229110)) (nat_lit 349)) .none (.ref (nat_lit 370)) .none (nat_lit 0))), ⟨[]⟩⟩
noncomputable def o374 : Obj := ⟨(.type "tuple"), .none, (.seq ⟨[(vs (u (nat_lit 118)) (nat_lit 716)), (vs (u (nat_lit 495622906222)) (nat_lit 717))]⟩ (nat_lit 0)), ⟨[]⟩⟩
noncomputable def o376 : Obj := ⟨.none, .none, (.func (fO (st1 (nat_lit 22)) false (u (nat_lit 431198396782)) (nat_lit 0) .none .none .none .none .none .none .none (nat_lit 0))), ⟨[]⟩⟩
noncomputable def o377 : Obj := ⟨(.type "code"), .none, (.fields ⟨[(vs (u (nat_lit 431198396782)) (nat_lit 713)), (vs (u (nat_lit 431198396782)) (nat_lit 714)), (vs (u (nat_lit 9621326145873605890393926034223)) (nat_lit 715)), (vi (nat_lit 116) (nat_lit 0)), (vi (nat_lit 2) (nat_lit 0)), (vi (nat_lit 0) (nat_lit 0)), (vi (nat_lit 0) (nat_lit 0)), (vi (nat_lit 3) (nat_lit 0)), (.ref (nat_lit 372)), (.bool true), (vi (nat_lit 181) (nat_lit 0)), (.ref (nat_lit 373)), .none, (.ref (nat_lit 374)), (.ref (nat_lit 375)), (.ref (nat_lit 376)), (vi (nat_lit 718) (nat_lit 0)), (vi (nat_lit 116) (nat_lit 0)), (vs (u (nat_lit 9621326145873605890393926034223)) (nat_lit 719))]⟩), ⟨[]⟩⟩
noncomputable def o378 : Obj := ⟨(.type "function"), .none, (.func (fO (st1 (nat_lit 22)) false (u (nat_lit 431198396782)) (nat_lit 3) .none .none .none (vs (u (nat_lit 39267333920436592655438326915056458229110)) (nat_lit 349)) .none (.ref (nat_lit 377)) .none (nat_lit 0))), ⟨[]⟩⟩
noncomputable def o381 : Obj := ⟨.none, .none, (.func (fO (st1 (nat_lit 23)) false (u (nat_lit 123836377112144154064413040)) (nat_lit 0) .none .none .none .none .none .none .none (nat_lit 0))), ⟨[]⟩⟩
noncomputable def o382 : Obj := ⟨(.type "code"), .none, (.fields ⟨[(vs (u (nat_lit 123836377112144154064413040)) (nat_lit 721)), (vs (u (nat_lit 123836377112144154064413040)) (nat_lit 722)), (vs (u (nat_lit 9621326145873605890393926034223)) (nat_lit 723)), (vi (nat_lit 120) (nat_lit 0)), (vi (nat_lit 2) (nat_lit 0)), (vi (nat_lit 0) (nat_lit 0)), (vi (nat_lit 0) (nat_lit 0)), (vi (nat_lit 3) (nat_lit 0)), (.ref (nat_lit 379)), (.bool true), (vi (nat_lit 181) (nat_lit 0)), (.ref (nat_lit 380)), .none, .none, .none, (.ref (nat_lit 381)), (vi (nat_lit 724) (nat_lit 0)), (vi (nat_lit 120) (nat_lit 0)), (vs (u (nat_lit 9621326145873605890393926034223)) (nat_lit 725))]⟩), ⟨[]⟩⟩
noncomputable def o383 : Obj := ⟨(.type "function"), .none, (.func (fO (st1 (nat_lit 23)) false (u (nat_lit 123836377112144154064413040)) (nat_lit 3) .none .none .none (vs (u (nat_lit 39267333920436592655438326915056458229110)) (nat_lit 349)) .none (.ref (nat_lit 382)) .none (nat_lit 0))), ⟨[]⟩⟩
noncomputable def o386 : Obj := ⟨(.type "tuple"), .none, (.seq ⟨[(vs (u (nat_lit 110)) (nat_lit 730))]⟩ (nat_lit 0)), ⟨[]⟩⟩
noncomputable def o388 : Obj := ⟨.none, .none, (.func (fO (st1 (nat_lit 24)) false (u (nat_lit 435610937463)) (nat_lit 0) .none .none .none .none .none .none .none (nat_lit 0))), ⟨[]⟩⟩
noncomputable def o389 : Obj := ⟨(.type "code"), .none, (.fields ⟨[(vs (u (nat_lit 435610937463)) (nat_lit 727)), (vs (u (nat_lit 435610937463)) (nat_lit 728)), (vs (u (nat_lit 9621326145873605890393926034223)) (nat_lit 729)), (vi (nat_lit 122) (nat_lit 0)), (vi (nat_lit 1) (nat_lit 0)), (vi (nat_lit 0) (nat_lit 0)), (vi (nat_lit 0) (nat_lit 0)), (vi (nat_lit 3) (nat_lit 0)), (.ref (nat_lit 384)), (.bool true), (vi (nat_lit 181) (nat_lit 0)), (.ref (nat_lit 385)), .none, (.ref (nat_lit 386)), (.ref (nat_lit 387)), (.ref (nat_lit 388)), (vi (nat_lit 731) (nat_lit 0)), (vi (nat_lit 122) (nat_lit 0)), (vs (u (nat_lit 9621326145873605890393926034223)) (nat_lit 732))]⟩), ⟨[]⟩⟩
noncomputable def o390 : Obj := ⟨(.type "function"), .none, (.func (fO (st1 (nat_lit 24)) false (u (nat_lit 435610937463)) (nat_lit 3) .none .none .none (vs (u (nat_lit 39267333920436592655438326915056458229110)) (nat_lit 349)) .none (.ref (nat_lit 389)) .none (nat_lit 0))), ⟨[]⟩⟩
noncomputable def o393 : Obj := ⟨(.type "tuple"), .none, (.seq ⟨[(vs (u (nat_lit 98)) (nat_lit 737))]⟩ (nat_lit 0)), ⟨[]⟩⟩
noncomputable def o395 : Obj := ⟨.none, .none, (.func (fO (st1 (nat_lit 25)) false (u (nat_lit 1734437990)) (nat_lit 0) .none .none .none .none .none .none .none (nat_lit 0))), ⟨[]⟩⟩
noncomputable def o396 : Obj := ⟨(.type "code"), .none, (.fields ⟨[(vs (u (nat_lit 1734437990)) (nat_lit 734)), (vs (u (nat_lit 1734437990)) (nat_lit 735)), (vs (u (nat_lit 9621326145873605890393926034223)) (nat_lit 736)), (vi (nat_lit 124) (nat_lit 0)), (vi (nat_lit 1) (nat_lit 0)), (vi (nat_lit 0) (nat_lit 0)), (vi (nat_lit 0) (nat_lit 0)), (vi (nat_lit 3) (nat_lit 0)), (.ref (nat_lit 391)), (.bool true), (vi (nat_lit 181) (nat_lit 0)), (.ref (nat_lit 392)), .none, (.ref (nat_lit 393)), (.ref (nat_lit 394)), (.ref (nat_lit 395)), (vi (nat_lit 738) (nat_lit 0)), (vi (nat_lit 124) (nat_lit 0)), (vs (u (nat_lit 9621326145873605890393926034223)) (nat_lit 739))]⟩), ⟨[]⟩⟩
noncomputable def o397 : Obj := ⟨(.type "function"), .none, (.func (fO (st1 (nat_lit 25)) false (u (nat_lit 1734437990)) (nat_lit 3) .none .none .none (vs (u (nat_lit 39267333920436592655438326915056458229110)) (nat_lit 349)) .none (.ref (nat_lit 396)) .none (nat_lit 0))), ⟨[]⟩⟩
noncomputable def o400 : Obj := ⟨(.type "tuple"), .none, (.seq ⟨[(vs (u (nat_lit 115)) (nat_lit 744))]⟩ (nat_lit 0)), ⟨[]⟩⟩
noncomputable def o402 : Obj := ⟨.none, .none, (.func (fO (st1 (nat_lit 26)) false (u (nat_lit 1954047348)) (nat_lit 0) .none .none .none .none .none .none .none (nat_lit 0))), ⟨[]⟩⟩
noncomputable def o403 : Obj := ⟨(.type "code"), .none, (.fields ⟨[(vs (u (nat_lit 1954047348)) (nat_lit 741)), (vs (u (nat_lit 1954047348)) (nat_lit 742)), (vs (u (nat_lit 9621326145873605890393926034223)) (nat_lit 743)), (vi (nat_lit 128) (nat_lit 0)), (vi (nat_lit 1) (nat_lit 0)), (vi (nat_lit 0) (nat_lit 0)), (vi (nat_lit 0) (nat_lit 0)), (vi (nat_lit 3) (nat_lit 0)), (.ref (nat_lit 398)), (.bool true), (vi (nat_lit 181) (nat_lit 0)), (.ref (nat_lit 399)), .none, (.ref (nat_lit 400)), (.ref (nat_lit 401)), (.ref (nat_lit 402)), (vi (nat_lit 745) (nat_lit 0)), (vi (nat_lit 128) (nat_lit 0)), (vs (u (nat_lit 9621326145873605890393926034223)) (nat_lit 746))]⟩), ⟨[]⟩⟩
noncomputable def o404 : Obj := ⟨(.type "function"), .none, (.func (fO (st1 (nat_lit 26)) false (u (nat_lit 1954047348)) (nat_lit 3) .none .none .none (vs (u (nat_lit 39267333920436592655438326915056458229110)) (nat_lit 349)) .none (.ref (nat_lit 403)) .none (nat_lit 0))), ⟨[]⟩⟩
noncomputable def o407 : Obj := ⟨(.type "tuple"), .none, (.seq ⟨[(vs (u (nat_lit 1701667182)) (nat_lit 751))]⟩ (nat_lit 0)), ⟨[]⟩⟩
noncomputable def o409 : Obj := ⟨.none, .none, (.func (fO (st1 (nat_lit 27)) false (u (nat_lit 119225648511347)) (nat_lit 0) .none .none .none .none .none .none .none (nat_lit 0))), ⟨[]⟩⟩
noncomputable def o410 : Obj := ⟨(.type "code"), .none, (.fields ⟨[(vs (u (nat_lit 119225648511347)) (nat_lit 748)), (vs (u (nat_lit 119225648511347)) (nat_lit 749)), (vs (u (nat_lit 9621326145873605890393926034223)) (nat_lit 750)), (vi (nat_lit 130) (nat_lit 0)), (vi (nat_lit 1) (nat_lit 0)), (vi (nat_lit 0) (nat_lit 0)), (vi (nat_lit 0) (nat_lit 0)), (vi (nat_lit 3) (nat_lit 0)), (.ref (nat_lit 405)), (.bool true), (vi (nat_lit 181) (nat_lit 0)), (.ref (nat_lit 406)), .none, (.ref (nat_lit 407)), (.ref (nat_lit 408)), (.ref (nat_lit 409)), (vi (nat_lit 752) (nat_lit 0)), (vi (nat_lit 130) (nat_lit 0)), (vs (u (nat_lit 9621326145873605890393926034223)) (nat_lit 753))]⟩), ⟨[]⟩⟩
noncomputable def o411 : Obj := ⟨(.type "function"), .none, (.func (fO (st1 (nat_lit 27)) false (u (nat_lit 119225648511347)) (nat_lit 3) .none .none .none (vs (u (nat_lit 39267333920436592655438326915056458229110)) (nat_lit 349)) .none (.ref (nat_lit 410)) .none (nat_lit 0))), ⟨[]⟩⟩
noncomputable def o414 : Obj := ⟨(.type "tuple"), .none, (.seq ⟨[(vs (u (nat_lit 1701667182)) (nat_lit 758)), (vs (u (nat_lit 1936159329)) (nat_lit 759)), (vs (u (nat_lit 495756604521)) (nat_lit 760))]⟩ (nat_lit 0)), ⟨[]⟩⟩
noncomputable def o416 : Obj := ⟨.none, .none, (.func (fO (st1 (nat_lit 28)) false (u (nat_lit 28832903256105315)) (nat_lit 0) .none .none .none .none .none .none .none (nat_lit 0))), ⟨[]⟩⟩
noncomputable def o417 : Obj := ⟨(.type "code"), .none, (.fields ⟨[(vs (u (nat_lit 28832903256105315)) (nat_lit 755)), (vs (u (nat_lit 28832903256105315)) (nat_lit 756)), (vs (u (nat_lit 9621326145873605890393926034223)) (nat_lit 757)), (vi (nat_lit 132) (nat_lit 0)), (vi (nat_lit 2) (nat_lit 0)), (vi (nat_lit 0) (nat_lit 0)), (vi (nat_lit 0) (nat_lit 0)), (vi (nat_lit 3) (nat_lit 0)), (.ref (nat_lit 412)), (.bool true), (vi (nat_lit 181) (nat_lit 0)), (.ref (nat_lit 413)), .none, (.ref (nat_lit 414)), (.ref (nat_lit 415)), (.ref (nat_lit 416)), (vi (nat_lit 761) (nat_lit 0)), (vi (nat_lit 132) (nat_lit 0)), (vs (u (nat_lit 9621326145873605890393926034223)) (nat_lit 762))]⟩), ⟨[]⟩⟩
noncomputable def o418 : Obj := ⟨(.type "function"), .none, (.func (fO (st1 (nat_lit 28)) false (u (nat_lit 28832903256105315)) (nat_lit 3) .none .none .none (vs (u (nat_lit 39267333920436592655438326915056458229110)) (nat_lit 349)) .none (.ref (nat_lit 417)) .none (nat_lit 0))), ⟨[]⟩⟩
noncomputable def o421 : Obj := ⟨(.type "tuple"), .none, (.seq ⟨[(vs (u (nat_lit 118)) (nat_lit 767)), (vs (u (nat_lit 1684957547)) (nat_lit 768))]⟩ (nat_lit 0)), ⟨[]⟩⟩
noncomputable def o423 : Obj := ⟨.none, .none, (.func (fO (st1 (nat_lit 29)) false (u (nat_lit 114849160783212)) (nat_lit 0) .none .none .none .none .none .none .none (nat_lit 0))), ⟨[]⟩⟩
noncomputable def o424 : Obj := ⟨(.type "code"), .none, (.fields ⟨[(vs (u (nat_lit 114849160783212)) (nat_lit 764)), (vs (u (nat_lit 114849160783212)) (nat_lit 765)), (vs (u (nat_lit 9621326145873605890393926034223)) (nat_lit 766)), (vi (nat_lit 135) (nat_lit 0)), (vi (nat_lit 1) (nat_lit 0)), (vi (nat_lit 0) (nat_lit 0)), (vi (nat_lit 0) (nat_lit 0)), (vi (nat_lit 3) (nat_lit 0)), (.ref (nat_lit 419)), (.bool true), (vi (nat_lit 181) (nat_lit 0)), (.ref (nat_lit 420)), .none, (.ref (nat_lit 421)), (.ref (nat_lit 422)), (.ref (nat_lit 423)), (vi (nat_lit 769) (nat_lit 0)), (vi (nat_lit 135) (nat_lit 0)), (vs (u (nat_lit 9621326145873605890393926034223)) (nat_lit 770))]⟩), ⟨[]⟩⟩
noncomputable def o425 : Obj := ⟨(.type "function"), .none, (.func (fO (st1 (nat_lit 29)) false (u (nat_lit 114849160783212)) (nat_lit 3) .none .none .none (vs (u (nat_lit 39267333920436592655438326915056458229110)) (nat_lit 349)) .none (.ref (nat_lit 424)) .none (nat_lit 0))), ⟨[]⟩⟩
noncomputable def o428 : Obj := ⟨(.type "tuple"), .none, (.seq ⟨[(vs (u (nat_lit 118)) (nat_lit 775))]⟩ (nat_lit 0)), ⟨[]⟩⟩
noncomputable def o430 : Obj := ⟨.none, .none, (.func (fO (st1 (nat_lit 30)) false (u (nat_lit 133507968132003860941075305)) (nat_lit 0) .none .none .none .none .none .none .none (nat_lit 0))), ⟨[]⟩⟩
noncomputable def o431 : Obj := ⟨(.type "code"), .none, (.fields ⟨[(vs (u (nat_lit 133507968132003860941075305)) (nat_lit 772)), (vs (u (nat_lit 133507968132003860941075305)) (nat_lit 773)), (vs (u (nat_lit 9621326145873605890393926034223)) (nat_lit 774)), (vi (nat_lit 146) (nat_lit 0)), (vi (nat_lit 1) (nat_lit 0)), (vi (nat_lit 0) (nat_lit 0)), (vi (nat_lit 0) (nat_lit 0)), (vi (nat_lit 3) (nat_lit 0)), (.ref (nat_lit 426)), (.bool true), (vi (nat_lit 181) (nat_lit 0)), (.ref (nat_lit 427)), .none, (.ref (nat_lit 428)), (.ref (nat_lit 429)), (.ref (nat_lit 430)), (vi (nat_lit 776) (nat_lit 0)), (vi (nat_lit 146) (nat_lit 0)), (vs (u (nat_lit 9621326145873605890393926034223)) (nat_lit 777))]⟩), ⟨[]⟩⟩
noncomputable def o432 : Obj := ⟨(.type "function"), .none, (.func (fO (st1 (nat_lit 30)) false (u (nat_lit 133507968132003860941075305)) (nat_lit 3) .none .none .none (vs (u (nat_lit 39267333920436592655438326915056458229110)) (nat_lit 349)) .none (.ref (nat_lit 431)) .none (nat_lit 0))), ⟨[]⟩⟩
noncomputable def o435 : Obj := ⟨(.type "tuple"), .none, (.seq ⟨[(vs (u (nat_lit 118)) (nat_lit 782))]⟩ (nat_lit 0)), ⟨[]⟩⟩
noncomputable def o437 : Obj := ⟨.none, .none, (.func (fO (st1 (nat_lit 31)) false (u (nat_lit 435710683251)) (nat_lit 0) .none .none .none .none .none .none .none (nat_lit 0))), ⟨[]⟩⟩
noncomputable def o438 : Obj := ⟨(.type "code"), .none, (.fields ⟨[(vs (u (nat_lit 435710683251)) (nat_lit 779)), (vs (u (nat_lit 435710683251)) (nat_lit 780)), (vs (u (nat_lit 9621326145873605890393926034223)) (nat_lit 781)), (vi (nat_lit 148) (nat_lit 0)), (vi (nat_lit 1) (nat_lit 0)), (vi (nat_lit 0) (nat_lit 0)), (vi (nat_lit 0) (nat_lit 0)), (vi (nat_lit 3) (nat_lit 0)), (.ref (nat_lit 433)), (.bool true), (vi (nat_lit 181) (nat_lit 0)), (.ref (nat_lit 434)), .none, (.ref (nat_lit 435)), (.ref (nat_lit 436)), (.ref (nat_lit 437)), (vi (nat_lit 783) (nat_lit 0)), (vi (nat_lit 148) (nat_lit 0)), (vs (u (nat_lit 9621326145873605890393926034223)) (nat_lit 784))]⟩), ⟨[]⟩⟩
noncomputable def o439 : Obj := ⟨(.type "function"), .none, (.func (fO (st1 (nat_lit 31)) false (u (nat_lit 435710683251)) (nat_lit 3) .none .none .none (vs (u (nat_lit 39267333920436592655438326915056458229110)) (nat_lit 349)) .none (.ref (nat_lit 438)) .none (nat_lit 0))), ⟨[]⟩⟩
noncomputable def o442 : Obj := ⟨(.type "tuple"), .none, (.seq ⟨[(vs (u (nat_lit 7761509)) (nat_lit 791)), (vs (u (nat_lit 1701667182)) (nat_lit 792))]⟩ (nat_lit 0)), ⟨[]⟩⟩
noncomputable def o444 : Obj := ⟨.none, .none, (.func (fO (st1 (nat_lit 33)) false (u (nat_lit 122641728202129683212365676)) (nat_lit 0) .none .none .none .none .none .none .none (nat_lit 0))), ⟨[]⟩⟩
noncomputable def o445 : Obj := ⟨(.type "code"), .none, (.fields ⟨[(vs (u (nat_lit 122641728202129683212365676)) (nat_lit 788)), (vs (u (nat_lit 122641728202129683212365676)) (nat_lit 789)), (vs (u (nat_lit 9621326145873605890393926034223)) (nat_lit 790)), (vi (nat_lit 153) (nat_lit 0)), (vi (nat_lit 2) (nat_lit 0)), (vi (nat_lit 0) (nat_lit 0)), (vi (nat_lit 0) (nat_lit 0)), (vi (nat_lit 3) (nat_lit 0)), (.ref (nat_lit 440)), (.bool true), (vi (nat_lit 181) (nat_lit 0)), (.ref (nat_lit 441)), .none, (.ref (nat_lit 442)), (.ref (nat_lit 443)), (.ref (nat_lit 444)), (vi (nat_lit 793) (nat_lit 0)), (vi (nat_lit 153) (nat_lit 0)), (vs (u (nat_lit 9621326145873605890393926034223)) (nat_lit 794))]⟩), ⟨[]⟩⟩
noncomputable def o446 : Obj := ⟨(.type "function"), .none, (.func (fO (st1 (nat_lit 33)) false (u (nat_lit 122641728202129683212365676)) (nat_lit 3) .none .none .none (vs (u (nat_lit 134835824049133363966180319744135226742)) (nat_lit 786)) .none (.ref (nat_lit 445)) .none (nat_lit 0))), ⟨[]⟩⟩
noncomputable def o449 : Obj := ⟨(.type "tuple"), .none, (.seq ⟨[(vs (u (nat_lit 7761509)) (nat_lit 799)), (vs (u (nat_lit 1701667182)) (nat_lit 800)), (vs (u (nat_lit 431349919590)) (nat_lit 801))]⟩ (nat_lit 0)), ⟨[]⟩⟩
noncomputable def o451 : Obj := ⟨.none, .none, (.func (fO (st1 (nat_lit 34)) false (u (nat_lit 123649615949676)) (nat_lit 0) .none .none .none .none .none .none .none (nat_lit 0))), ⟨[]⟩⟩
noncomputable def o452 : Obj := ⟨(.type "code"), .none, (.fields ⟨[(vs (u (nat_lit 123649615949676)) (nat_lit 796)), (vs (u (nat_lit 123649615949676)) (nat_lit 797)), (vs (u (nat_lit 9621326145873605890393926034223)) (nat_lit 798)), (vi (nat_lit 155) (nat_lit 0)), (vi (nat_lit 2) (nat_lit 0)), (vi (nat_lit 0) (nat_lit 0)), (vi (nat_lit 0) (nat_lit 0)), (vi (nat_lit 3) (nat_lit 0)), (.ref (nat_lit 447)), (.bool true), (vi (nat_lit 181) (nat_lit 0)), (.ref (nat_lit 448)), .none, (.ref (nat_lit 449)), (.ref (nat_lit 450)), (.ref (nat_lit 451)), (vi (nat_lit 802) (nat_lit 0)), (vi (nat_lit 155) (nat_lit 0)), (vs (u (nat_lit 9621326145873605890393926034223)) (nat_lit 803))]⟩), ⟨[]⟩⟩
noncomputable def o453 : Obj := ⟨(.type "function"), .none, (.func (fO (st1 (nat_lit 34)) false (u (nat_lit 123649615949676)) (nat_lit 3) .none .none .none (vs (u (nat_lit 134835824049133363966180319744135226742)) (nat_lit 786)) .none (.ref (nat_lit 452)) .none (nat_lit 0))), ⟨[]⟩⟩
noncomputable def o456 (P : Params) : Obj := ⟨(.type "dict"), .none, (.dict ⟨[en P (u (nat_lit 450384564904988244795231)) (nat_lit 814) (vs (u (nat_lit 2573597184969903821588709711078071048222238070)) (nat_lit 805)), en P (u (nat_lit 29516402862621713203914170207)) (nat_lit 816) (vs (u (nat_lit 7453010330410836301)) (nat_lit 815)), en P (u (nat_lit 495203858965168609907421719000670047)) (nat_lit 818) (vi (nat_lit 163) (nat_lit 817)), en P (u (nat_lit 6872339552563453791)) (nat_lit 827) (.ref (nat_lit 467)), en P (u (nat_lit 499883538533)) (nat_lit 836) (.ref (nat_lit 474)), en P (u (nat_lit 30506403037864304)) (nat_lit 844) (.ref (nat_lit 481)), en P (u (nat_lit 483735845822722213044592)) (nat_lit 854) (.ref (nat_lit 488)), en P (u (nat_lit 511812872020086802837360)) (nat_lit 863) (.ref (nat_lit 495)), en P (u (nat_lit 28540514665984873)) (nat_lit 871) (.ref (nat_lit 502)), en P (u (nat_lit 1953719666)) (nat_lit 877) (.ref (nat_lit 507)), en P (u (nat_lit 139387583093331537335747288891456728448373227741023)) (nat_lit 882) (.ref (nat_lit 508))]⟩ (nat_lit 11)), ⟨[]⟩⟩
noncomputable def o458 : Obj := ⟨.none, .none, (.fields ⟨[(vi (nat_lit 165) (nat_lit 0)), (vi (nat_lit 4) (nat_lit 0)), (.ref (nat_lit 466)), (vi (nat_lit 171) (nat_lit 0)), (vi (nat_lit 4) (nat_lit 0)), (.ref (nat_lit 473)), (vi (nat_lit 181) (nat_lit 0)), (vi (nat_lit 4) (nat_lit 0)), (.ref (nat_lit 480)), (vi (nat_lit 188) (nat_lit 0)), (vi (nat_lit 4) (nat_lit 0)), (.ref (nat_lit 487)), (vi (nat_lit 199) (nat_lit 0)), (vi (nat_lit 4) (nat_lit 0)), (.ref (nat_lit 494)), (vi (nat_lit 211) (nat_lit 0)), (vi (nat_lit 4) (nat_lit 0)), (.ref (nat_lit 501)), (vi (nat_lit 214) (nat_lit 0)), (vi (nat_lit 4) (nat_lit 0)), (.ref (nat_lit 506))]⟩), ⟨[]⟩⟩
noncomputable def o459 : Obj := ⟨(.type "code"), .none, (.fields ⟨[(vs (u (nat_lit 7453010330410836301)) (nat_lit 809)), (vs (u (nat_lit 7453010330410836301)) (nat_lit 810)), (vs (u (nat_lit 9621326145873605890393926034223)) (nat_lit 811)), (vi (nat_lit 163) (nat_lit 0)), (vi (nat_lit 0) (nat_lit 0)), (vi (nat_lit 0) (nat_lit 0)), (vi (nat_lit 0) (nat_lit 0)), (vi (nat_lit 0) (nat_lit 0)), (.ref (nat_lit 457)), (.bool false), (vi (nat_lit 181) (nat_lit 0)), (.ref (nat_lit 458)), .none, .none, .none, .none, (vi (nat_lit 812) (nat_lit 0)), (vi (nat_lit 163) (nat_lit 0)), (vs (u (nat_lit 9621326145873605890393926034223)) (nat_lit 813))]⟩), ⟨[]⟩⟩
noncomputable def o460 : Obj := ⟨(.type "frame"), .none, .plain, ⟨[(.some (.ref (nat_lit 459))), (.some (.ref (nat_lit 3))), (.some (.ref (nat_lit 456))), .none, (.some (vs (u (nat_lit 2573597184969903821588709711078071048222238070)) (nat_lit 805))), .none, (.some (.ref (nat_lit 0)))]⟩⟩
noncomputable def o463 : Obj := ⟨(.type "tuple"), .none, (.seq ⟨[(vs (u (nat_lit 1718379891)) (nat_lit 822)), (vs (u (nat_lit 32488788025569126)) (nat_lit 823)), (vs (u (nat_lit 1936154996)) (nat_lit 824))]⟩ (nat_lit 0)), ⟨[]⟩⟩
noncomputable def o465 : Obj := ⟨.none, .none, (.func (fO (st2 (nat_lit 36) (nat_lit 0)) false (u (nat_lit 32453705961925028560410754296395066532173)) (nat_lit 0) .none .none .none .none .none .none .none (nat_lit 0))), ⟨[]⟩⟩
noncomputable def o466 : Obj := ⟨(.type "code"), .none, (.fields ⟨[(vs (u (nat_lit 6872339552563453791)) (nat_lit 819)), (vs (u (nat_lit 32453705961925028560410754296395066532173)) (nat_lit 820)), (vs (u (nat_lit 9621326145873605890393926034223)) (nat_lit 821)), (vi (nat_lit 165) (nat_lit 0)), (vi (nat_lit 3) (nat_lit 0)), (vi (nat_lit 0) (nat_lit 0)), (vi (nat_lit 0) (nat_lit 0)), (vi (nat_lit 3) (nat_lit 0)), (.ref (nat_lit 461)), (.bool true), (vi (nat_lit 181) (nat_lit 0)), (.ref (nat_lit 462)), .none, (.ref (nat_lit 463)), (.ref (nat_lit 464)), (.ref (nat_lit 465)), (vi (nat_lit 825) (nat_lit 0)), (vi (nat_lit 165) (nat_lit 0)), (vs (u (nat_lit 9621326145873605890393926034223)) (nat_lit 826))]⟩), ⟨[]⟩⟩
noncomputable def o467 : Obj := ⟨(.type "function"), .none, (.func (fO (st2 (nat_lit 36) (nat_lit 0)) false (u (nat_lit 32453705961925028560410754296395066532173)) (nat_lit 3) .none .none .none (vs (u (nat_lit 2573597184969903821588709711078071048222238070)) (nat_lit 805)) .none (.ref (nat_lit 466)) .none (nat_lit 0))), ⟨[]⟩⟩
noncomputable def o470 : Obj := ⟨(.type "tuple"), .none, (.seq ⟨[(vs (u (nat_lit 1718379891)) (nat_lit 831)), (vs (u (nat_lit 1701667182)) (nat_lit 832)), (vs (u (nat_lit 435459026032)) (nat_lit 833))]⟩ (nat_lit 0)), ⟨[]⟩⟩
noncomputable def o472 : Obj := ⟨.none, .none, (.func (fO (st2 (nat_lit 36) (nat_lit 1)) false (u (nat_lit 2360633267707371980834364485558605)) (nat_lit 0) .none .none .none .none .none .none .none (nat_lit 0))), ⟨[]⟩⟩
noncomputable def o473 : Obj := ⟨(.type "code"), .none, (.fields ⟨[(vs (u (nat_lit 499883538533)) (nat_lit 828)), (vs (u (nat_lit 2360633267707371980834364485558605)) (nat_lit 829)), (vs (u (nat_lit 9621326145873605890393926034223)) (nat_lit 830)), (vi (nat_lit 171) (nat_lit 0)), (vi (nat_lit 1) (nat_lit 0)), (vi (nat_lit 0) (nat_lit 0)), (vi (nat_lit 0) (nat_lit 0)), (vi (nat_lit 3) (nat_lit 0)), (.ref (nat_lit 468)), (.bool true), (vi (nat_lit 181) (nat_lit 0)), (.ref (nat_lit 469)), .none, (.ref (nat_lit 470)), (.ref (nat_lit 471)), (.ref (nat_lit 472)), (vi (nat_lit 834) (nat_lit 0)), (vi (nat_lit 171) (nat_lit 0)), (vs (u (nat_lit 9621326145873605890393926034223)) (nat_lit 835))]⟩), ⟨[]⟩⟩
noncomputable def o474 : Obj := ⟨(.type "function"), .none, (.func (fO (st2 (nat_lit 36) (nat_lit 1)) false (u (nat_lit 2360633267707371980834364485558605)) (nat_lit 3) .none .none .none (vs (u (nat_lit 2573597184969903821588709711078071048222238070)) (nat_lit 805)) .none (.ref (nat_lit 473)) .none (nat_lit 0))), ⟨[]⟩⟩
noncomputable def o477 : Obj := ⟨(.type "tuple"), .none, (.seq ⟨[(vs (u (nat_lit 1718379891)) (nat_lit 840)), (vs (u (nat_lit 1701667182)) (nat_lit 841))]⟩ (nat_lit 0)), ⟨[]⟩⟩
noncomputable def o479 : Obj := ⟨.none, .none, (.func (fO (st2 (nat_lit 36) (nat_lit 2)) false (u (nat_lit 144062415218923114318821571952580518221)) (nat_lit 0) .none .none .none .none .none .none .none (nat_lit 0))), ⟨[]⟩⟩
noncomputable def o480 : Obj := ⟨(.type "code"), .none, (.fields ⟨[(vs (u (nat_lit 30506403037864304)) (nat_lit 837)), (vs (u (nat_lit 144062415218923114318821571952580518221)) (nat_lit 838)), (vs (u (nat_lit 9621326145873605890393926034223)) (nat_lit 839)), (vi (nat_lit 181) (nat_lit 0)), (vi (nat_lit 1) (nat_lit 0)), (vi (nat_lit 0) (nat_lit 0)), (vi (nat_lit 0) (nat_lit 0)), (vi (nat_lit 3) (nat_lit 0)), (.ref (nat_lit 475)), (.bool true), (vi (nat_lit 181) (nat_lit 0)), (.ref (nat_lit 476)), .none, (.ref (nat_lit 477)), (.ref (nat_lit 478)), (.ref (nat_lit 479)), (vi (nat_lit 842) (nat_lit 0)), (vi (nat_lit 181) (nat_lit 0)), (vs (u (nat_lit 9621326145873605890393926034223)) (nat_lit 843))]⟩), ⟨[]⟩⟩
noncomputable def o481 : Obj := ⟨(.type "function"), .none, (.func (fO (st2 (nat_lit 36) (nat_lit 2)) false (u (nat_lit 144062415218923114318821571952580518221)) (nat_lit 3) .none .none .none (vs (u (nat_lit 2573597184969903821588709711078071048222238070)) (nat_lit 805)) .none (.ref (nat_lit 480)) .none (nat_lit 0))), ⟨[]⟩⟩
noncomputable def o484 : Obj := ⟨(.type "tuple"), .none, (.seq ⟨[(vs (u (nat_lit 1718379891)) (nat_lit 848)), (vs (u (nat_lit 1701667182)) (nat_lit 849)), (vs (u (nat_lit 435459026032)) (nat_lit 850)), (vs (u (nat_lit 6775156)) (nat_lit 851))]⟩ (nat_lit 0)), ⟨[]⟩⟩
noncomputable def o486 : Obj := ⟨.none, .none, (.func (fO (st2 (nat_lit 36) (nat_lit 3)) false (u (nat_lit 2284377944875821655891561856064191969667342669)) (nat_lit 0) .none .none .none .none .none .none .none (nat_lit 0))), ⟨[]⟩⟩
noncomputable def o487 : Obj := ⟨(.type "code"), .none, (.fields ⟨[(vs (u (nat_lit 483735845822722213044592)) (nat_lit 845)), (vs (u (nat_lit 2284377944875821655891561856064191969667342669)) (nat_lit 846)), (vs (u (nat_lit 9621326145873605890393926034223)) (nat_lit 847)), (vi (nat_lit 188) (nat_lit 0)), (vi (nat_lit 2) (nat_lit 0)), (vi (nat_lit 0) (nat_lit 0)), (vi (nat_lit 0) (nat_lit 0)), (vi (nat_lit 3) (nat_lit 0)), (.ref (nat_lit 482)), (.bool true), (vi (nat_lit 181) (nat_lit 0)), (.ref (nat_lit 483)), .none, (.ref (nat_lit 484)), (.ref (nat_lit 485)), (.ref (nat_lit 486)), (vi (nat_lit 852) (nat_lit 0)), (vi (nat_lit 188) (nat_lit 0)), (vs (u (nat_lit 9621326145873605890393926034223)) (nat_lit 853))]⟩), ⟨[]⟩⟩
noncomputable def o488 : Obj := ⟨(.type "function"), .none, (.func (fO (st2 (nat_lit 36) (nat_lit 3)) false (u (nat_lit 2284377944875821655891561856064191969667342669)) (nat_lit 3) .none .none .none (vs (u (nat_lit 2573597184969903821588709711078071048222238070)) (nat_lit 805)) .none (.ref (nat_lit 487)) .none (nat_lit 0))), ⟨[]⟩⟩
noncomputable def o491 : Obj := ⟨(.type "tuple"), .none, (.seq ⟨[(vs (u (nat_lit 1718379891)) (nat_lit 858)), (vs (u (nat_lit 435459026032)) (nat_lit 859)), (vs (u (nat_lit 1701667182)) (nat_lit 860))]⟩ (nat_lit 0)), ⟨[]⟩⟩
noncomputable def o493 : Obj := ⟨.none, .none, (.func (fO (st2 (nat_lit 36) (nat_lit 4)) false (u (nat_lit 2416967952328909162909964104228723077382693197)) (nat_lit 0) .none .none .none .none .none .none .none (nat_lit 0))), ⟨[]⟩⟩
noncomputable def o494 : Obj := ⟨(.type "code"), .none, (.fields ⟨[(vs (u (nat_lit 511812872020086802837360)) (nat_lit 855)), (vs (u (nat_lit 2416967952328909162909964104228723077382693197)) (nat_lit 856)), (vs (u (nat_lit 9621326145873605890393926034223)) (nat_lit 857)), (vi (nat_lit 199) (nat_lit 0)), (vi (nat_lit 1) (nat_lit 0)), (vi (nat_lit 0) (nat_lit 0)), (vi (nat_lit 0) (nat_lit 0)), (vi (nat_lit 3) (nat_lit 0)), (.ref (nat_lit 489)), (.bool true), (vi (nat_lit 181) (nat_lit 0)), (.ref (nat_lit 490)), .none, (.ref (nat_lit 491)), (.ref (nat_lit 492)), (.ref (nat_lit 493)), (vi (nat_lit 861) (nat_lit 0)), (vi (nat_lit 199) (nat_lit 0)), (vs (u (nat_lit 9621326145873605890393926034223)) (nat_lit 862))]⟩), ⟨[]⟩⟩
noncomputable def o495 : Obj := ⟨(.type "function"), .none, (.func (fO (st2 (nat_lit 36) (nat_lit 4)) false (u (nat_lit 2416967952328909162909964104228723077382693197)) (nat_lit 3) .none .none .none (vs (u (nat_lit 2573597184969903821588709711078071048222238070)) (nat_lit 805)) .none (.ref (nat_lit 494)) .none (nat_lit 0))), ⟨[]⟩⟩
noncomputable def o498 : Obj := ⟨(.type "tuple"), .none, (.seq ⟨[(vs (u (nat_lit 1718379891)) (nat_lit 867)), (vs (u (nat_lit 435459026032)) (nat_lit 868))]⟩ (nat_lit 0)), ⟨[]⟩⟩
noncomputable def o500 : Obj := ⟨.none, .none, (.func (fO (st2 (nat_lit 36) (nat_lit 5)) false (u (nat_lit 134778769862496512605924260663438631245)) (nat_lit 0) .none .none .none .none .none .none .none (nat_lit 0))), ⟨[]⟩⟩
noncomputable def o501 : Obj := ⟨(.type "code"), .none, (.fields ⟨[(vs (u (nat_lit 28540514665984873)) (nat_lit 864)), (vs (u (nat_lit 134778769862496512605924260663438631245)) (nat_lit 865)), (vs (u (nat_lit 9621326145873605890393926034223)) (nat_lit 866)), (vi (nat_lit 211) (nat_lit 0)), (vi (nat_lit 2) (nat_lit 0)), (vi (nat_lit 0) (nat_lit 0)), (vi (nat_lit 0) (nat_lit 0)), (vi (nat_lit 3) (nat_lit 0)), (.ref (nat_lit 496)), (.bool true), (vi (nat_lit 181) (nat_lit 0)), (.ref (nat_lit 497)), .none, (.ref (nat_lit 498)), (.ref (nat_lit 499)), (.ref (nat_lit 500)), (vi (nat_lit 869) (nat_lit 0)), (vi (nat_lit 211) (nat_lit 0)), (vs (u (nat_lit 9621326145873605890393926034223)) (nat_lit 870))]⟩), ⟨[]⟩⟩
noncomputable def o502 : Obj := ⟨(.type "function"), .none, (.func (fO (st2 (nat_lit 36) (nat_lit 5)) false (u (nat_lit 134778769862496512605924260663438631245)) (nat_lit 3) .none .none .none (vs (u (nat_lit 2573597184969903821588709711078071048222238070)) (nat_lit 805)) .none (.ref (nat_lit 501)) .none (nat_lit 0))), ⟨[]⟩⟩
noncomputable def o505 : Obj := ⟨.none, .none, (.func (fO (st2 (nat_lit 36) (nat_lit 6)) false (u (nat_lit 9226180268497681206161697956173)) (nat_lit 0) .none .none .none .none .none .none .none (nat_lit 0))), ⟨[]⟩⟩
noncomputable def o506 : Obj := ⟨(.type "code"), .none, (.fields ⟨[(vs (u (nat_lit 1953719666)) (nat_lit 872)), (vs (u (nat_lit 9226180268497681206161697956173)) (nat_lit 873)), (vs (u (nat_lit 9621326145873605890393926034223)) (nat_lit 874)), (vi (nat_lit 214) (nat_lit 0)), (vi (nat_lit 1) (nat_lit 0)), (vi (nat_lit 0) (nat_lit 0)), (vi (nat_lit 0) (nat_lit 0)), (vi (nat_lit 3) (nat_lit 0)), (.ref (nat_lit 503)), (.bool true), (vi (nat_lit 181) (nat_lit 0)), (.ref (nat_lit 504)), .none, .none, .none, (.ref (nat_lit 505)), (vi (nat_lit 875) (nat_lit 0)), (vi (nat_lit 214) (nat_lit 0)), (vs (u (nat_lit 9621326145873605890393926034223)) (nat_lit 876))]⟩), ⟨[]⟩⟩
noncomputable def o507 : Obj := ⟨(.type "function"), .none, (.func (fO (st2 (nat_lit 36) (nat_lit 6)) false (u (nat_lit 9226180268497681206161697956173)) (nat_lit 3) .none .none .none (vs (u (nat_lit 2573597184969903821588709711078071048222238070)) (nat_lit 805)) .none (.ref (nat_lit 506)) .none (nat_lit 0))), ⟨[]⟩⟩
noncomputable def o508 : Obj := ⟨(.type "tuple"), .none, (.seq ⟨[(vs (u (nat_lit 32488788025569126)) (nat_lit 878)), (vs (u (nat_lit 126879296220272)) (nat_lit 879)), (vs (u (nat_lit 1936154996)) (nat_lit 880)), (vs (u (nat_lit 1684370293)) (nat_lit 881))]⟩ (nat_lit 0)), ⟨[]⟩⟩
noncomputable def o509 (P : Params) : Obj := ⟨(.type "dict"), .none, (.dict ⟨[en P (u (nat_lit 450384564904988244795231)) (nat_lit 814) (vs (u (nat_lit 2573597184969903821588709711078071048222238070)) (nat_lit 805)), en P (u (nat_lit 495203858965168609907421719000670047)) (nat_lit 818) (vi (nat_lit 163) (nat_lit 817)), en P (u (nat_lit 6872339552563453791)) (nat_lit 827) (.ref (nat_lit 467)), en P (u (nat_lit 499883538533)) (nat_lit 836) (.ref (nat_lit 474)), en P (u (nat_lit 30506403037864304)) (nat_lit 844) (.ref (nat_lit 481)), en P (u (nat_lit 483735845822722213044592)) (nat_lit 854) (.ref (nat_lit 488)), en P (u (nat_lit 511812872020086802837360)) (nat_lit 863) (.ref (nat_lit 495)), en P (u (nat_lit 28540514665984873)) (nat_lit 871) (.ref (nat_lit 502)), en P (u (nat_lit 1953719666)) (nat_lit 877) (.ref (nat_lit 507)), en P (u (nat_lit 139387583093331537335747288891456728448373227741023)) (nat_lit 882) (.ref (nat_lit 508)), en P (u (nat_lit 6872339526709436255)) (nat_lit 884) (.ref (nat_lit 511)), en P (u (nat_lit 115298466557181117500710751)) (nat_lit 886) (.ref (nat_lit 512)), en P (u (nat_lit 26845003462762335)) (nat_lit 887) .none]⟩ (nat_lit 4)), ⟨[]⟩⟩
noncomputable def o510 : Obj := ⟨(.type "type"), .none, (.cls ⟨(u (nat_lit 7453010330410836301)), [(.type "object")], [(.ref (nat_lit 510)), (.type "object")], (nat_lit 509), (u (nat_lit 7453010330410836301)), true, [], [], false, .none, false⟩), ⟨[.none, .none, (.some (vs (u (nat_lit 7453010330410836301)) (nat_lit 807))), (.some (vs (u (nat_lit 7453010330410836301)) (nat_lit 815))), (.some (.builtin "object.__new__")), (.some (.bool true))]⟩⟩
noncomputable def o511 : Obj := ⟨(.type "getset_descriptor"), .none, (.fields ⟨[(vs (u (nat_lit 6872339526709436255)) (nat_lit 883)), (.ref (nat_lit 510)), (.builtin "function.__dict__"), (.builtin "function.__dict__#set")]⟩), ⟨[]⟩⟩
noncomputable def o512 : Obj := ⟨(.type "getset_descriptor"), .none, (.fields ⟨[(vs (u (nat_lit 115298466557181117500710751)) (nat_lit 885)), (.ref (nat_lit 510)), (.builtin "ExceptionGroup.__weakref__"), .none]⟩), ⟨[]⟩⟩
noncomputable def o513 : Obj := ⟨(.type "super"), .none, (.fields ⟨[(.ref (nat_lit 510)), (.ref (nat_lit 510)), (.ref (nat_lit 510))]⟩), ⟨[]⟩⟩
noncomputable def o514 : Obj := ⟨(.type "builtin_function_or_method"), .none, (.fields ⟨[(.builtin "object.__init_subclass__"), (.ref (nat_lit 510))]⟩), ⟨[]⟩⟩
noncomputable def o517 : Obj := ⟨(.type "tuple"), .none, (.seq ⟨[(vs (u (nat_lit 1701667182)) (nat_lit 893))]⟩ (nat_lit 0)), ⟨[]⟩⟩
noncomputable def o519 : Obj := ⟨.none, .none, (.func (fO (st1 (nat_lit 37)) false (u (nat_lit 36045811343340596304970870628)) (nat_lit 0) .none .none .none .none .none .none .none (nat_lit 0))), ⟨[]⟩⟩
noncomputable def o520 : Obj := ⟨(.type "code"), .none, (.fields ⟨[(vs (u (nat_lit 36045811343340596304970870628)) (nat_lit 890)), (vs (u (nat_lit 36045811343340596304970870628)) (nat_lit 891)), (vs (u (nat_lit 9621326145873605890393926034223)) (nat_lit 892)), (vi (nat_lit 216) (nat_lit 0)), (vi (nat_lit 1) (nat_lit 0)), (vi (nat_lit 0) (nat_lit 0)), (vi (nat_lit 0) (nat_lit 0)), (vi (nat_lit 3) (nat_lit 0)), (.ref (nat_lit 515)), (.bool true), (vi (nat_lit 181) (nat_lit 0)), (.ref (nat_lit 516)), .none, (.ref (nat_lit 517)), (.ref (nat_lit 518)), (.ref (nat_lit 519)), (vi (nat_lit 894) (nat_lit 0)), (vi (nat_lit 216) (nat_lit 0)), (vs (u (nat_lit 9621326145873605890393926034223)) (nat_lit 895))]⟩), ⟨[]⟩⟩
noncomputable def o521 : Obj := ⟨(.type "function"), .none, (.func (fO (st1 (nat_lit 37)) false (u (nat_lit 36045811343340596304970870628)) (nat_lit 3) .none .none .none (vs (u (nat_lit 2573597184969903821588709711078071048222238070)) (nat_lit 805)) .none (.ref (nat_lit 520)) .none (nat_lit 0))), ⟨[]⟩⟩
noncomputable def o524 : Obj := ⟨(.type "tuple"), .none, (.seq ⟨[(vs (u (nat_lit 1936159329)) (nat_lit 900)), (vs (u (nat_lit 435459026032)) (nat_lit 901)), (vs (u (nat_lit 2003789939)) (nat_lit 902)), (vs (u (nat_lit 6775156)) (nat_lit 903)), (vs (u (nat_lit 435761734006)) (nat_lit 904)), (vs (u (nat_lit 1684828020)) (nat_lit 905))]⟩ (nat_lit 0)), ⟨[]⟩⟩
noncomputable def o526 : Obj := ⟨.none, .none, (.func (fO (st1 (nat_lit 38)) false (u (nat_lit 9227727703896348101202602848865)) (nat_lit 0) .none .none .none .none .none .none .none (nat_lit 0))), ⟨[]⟩⟩
noncomputable def o527 : Obj := ⟨(.type "code"), .none, (.fields ⟨[(vs (u (nat_lit 9227727703896348101202602848865)) (nat_lit 897)), (vs (u (nat_lit 9227727703896348101202602848865)) (nat_lit 898)), (vs (u (nat_lit 9621326145873605890393926034223)) (nat_lit 899)), (vi (nat_lit 218) (nat_lit 0)), (vi (nat_lit 3) (nat_lit 0)), (vi (nat_lit 0) (nat_lit 0)), (vi (nat_lit 0) (nat_lit 0)), (vi (nat_lit 3) (nat_lit 0)), (.ref (nat_lit 522)), (.bool true), (vi (nat_lit 181) (nat_lit 0)), (.ref (nat_lit 523)), .none, (.ref (nat_lit 524)), (.ref (nat_lit 525)), (.ref (nat_lit 526)), (vi (nat_lit 906) (nat_lit 0)), (vi (nat_lit 218) (nat_lit 0)), (vs (u (nat_lit 9621326145873605890393926034223)) (nat_lit 907))]⟩), ⟨[]⟩⟩
noncomputable def o528 : Obj := ⟨(.type "function"), .none, (.func (fO (st1 (nat_lit 38)) false (u (nat_lit 9227727703896348101202602848865)) (nat_lit 3) .none .none .none (vs (u (nat_lit 2573597184969903821588709711078071048222238070)) (nat_lit 805)) .none (.ref (nat_lit 527)) .none (nat_lit 0))), ⟨[]⟩⟩
noncomputable def o531 : Obj := ⟨.none, .none, (.func (fO (st1 (nat_lit 39)) false (u (nat_lit 140803950559924204434976373)) (nat_lit 0) .none .none .none .none .none .none .none (nat_lit 0))), ⟨[]⟩⟩
noncomputable def o532 : Obj := ⟨(.type "code"), .none, (.fields ⟨[(vs (u (nat_lit 140803950559924204434976373)) (nat_lit 909)), (vs (u (nat_lit 140803950559924204434976373)) (nat_lit 910)), (vs (u (nat_lit 9621326145873605890393926034223)) (nat_lit 911)), (vi (nat_lit 224) (nat_lit 0)), (vi (nat_lit 3) (nat_lit 0)), (vi (nat_lit 0) (nat_lit 0)), (vi (nat_lit 0) (nat_lit 0)), (vi (nat_lit 3) (nat_lit 0)), (.ref (nat_lit 529)), (.bool true), (vi (nat_lit 181) (nat_lit 0)), (.ref (nat_lit 530)), .none, .none, .none, (.ref (nat_lit 531)), (vi (nat_lit 912) (nat_lit 0)), (vi (nat_lit 224) (nat_lit 0)), (vs (u (nat_lit 9621326145873605890393926034223)) (nat_lit 913))]⟩), ⟨[]⟩⟩
noncomputable def o533 : Obj := ⟨(.type "function"), .none, (.func (fO (st1 (nat_lit 39)) false (u (nat_lit 140803950559924204434976373)) (nat_lit 3) .none .none .none (vs (u (nat_lit 2573597184969903821588709711078071048222238070)) (nat_lit 805)) .none (.ref (nat_lit 532)) .none (nat_lit 0))), ⟨[]⟩⟩
noncomputable def o537 : Obj := ⟨.none, .none, (.func (fO (st1 (nat_lit 40)) false (u (nat_lit 139505445986209994665910637)) (nat_lit 0) .none .none .none .none .none .none .none (nat_lit 0))), ⟨[]⟩⟩
noncomputable def o538 : Obj := ⟨(.type "code"), .none, (.fields ⟨[(vs (u (nat_lit 139505445986209994665910637)) (nat_lit 915)), (vs (u (nat_lit 139505445986209994665910637)) (nat_lit 916)), (vs (u (nat_lit 9621326145873605890393926034223)) (nat_lit 917)), (vi (nat_lit 230) (nat_lit 0)), (vi (nat_lit 3) (nat_lit 0)), (vi (nat_lit 0) (nat_lit 0)), (vi (nat_lit 0) (nat_lit 0)), (vi (nat_lit 3) (nat_lit 0)), (.ref (nat_lit 535)), (.bool true), (vi (nat_lit 181) (nat_lit 0)), (.ref (nat_lit 536)), .none, .none, .none, (.ref (nat_lit 537)), (vi (nat_lit 918) (nat_lit 0)), (vi (nat_lit 230) (nat_lit 0)), (vs (u (nat_lit 9621326145873605890393926034223)) (nat_lit 919))]⟩), ⟨[]⟩⟩
noncomputable def o539 : Obj := ⟨(.type "function"), .none, (.func (fO (st1 (nat_lit 40)) false (u (nat_lit 139505445986209994665910637)) (nat_lit 3) (.ref (nat_lit 534)) .none .none (vs (u (nat_lit 2573597184969903821588709711078071048222238070)) (nat_lit 805)) .none (.ref (nat_lit 538)) .none (nat_lit 0))), ⟨[]⟩⟩
noncomputable def o542 : Obj := ⟨(.type "tuple"), .none, (.seq ⟨[(vs (u (nat_lit 1919973477)) (nat_lit 926)), (vs (u (nat_lit 435761734006)) (nat_lit 927)), (vs (u (nat_lit 28555869292556912)) (nat_lit 928))]⟩ (nat_lit 0)), ⟨[]⟩⟩
noncomputable def o544 : Obj := ⟨.none, .none, (.func (fO (st1 (nat_lit 42)) false (u (nat_lit 31397510328417944283963617124)) (nat_lit 0) .none .none .none .none .none .none .none (nat_lit 0))), ⟨[]⟩⟩
noncomputable def o545 : Obj := ⟨(.type "code"), .none, (.fields ⟨[(vs (u (nat_lit 31397510328417944283963617124)) (nat_lit 923)), (vs (u (nat_lit 31397510328417944283963617124)) (nat_lit 924)), (vs (u (nat_lit 9621326145873605890393926034223)) (nat_lit 925)), (vi (nat_lit 240) (nat_lit 0)), (vi (nat_lit 2) (nat_lit 0)), (vi (nat_lit 0) (nat_lit 0)), (vi (nat_lit 0) (nat_lit 0)), (vi (nat_lit 3) (nat_lit 0)), (.ref (nat_lit 540)), (.bool true), (vi (nat_lit 181) (nat_lit 0)), (.ref (nat_lit 541)), .none, (.ref (nat_lit 542)), (.ref (nat_lit 543)), (.ref (nat_lit 544)), (vi (nat_lit 929) (nat_lit 0)), (vi (nat_lit 240) (nat_lit 0)), (vs (u (nat_lit 9621326145873605890393926034223)) (nat_lit 930))]⟩), ⟨[]⟩⟩
noncomputable def o546 : Obj := ⟨(.type "function"), .none, (.func (fO (st1 (nat_lit 42)) false (u (nat_lit 31397510328417944283963617124)) (nat_lit 3) .none .none .none (vs (u (nat_lit 9445006827650914498653618408238052328826230)) (nat_lit 921)) .none (.ref (nat_lit 545)) .none (nat_lit 0))), ⟨[]⟩⟩
noncomputable def o549 : Obj := ⟨(.type "tuple"), .none, (.seq ⟨[(vs (u (nat_lit 435761734006)) (nat_lit 935))]⟩ (nat_lit 0)), ⟨[]⟩⟩
noncomputable def o551 : Obj := ⟨.none, .none, (.func (fO (st1 (nat_lit 43)) false (u (nat_lit 2361506002213494275268710822670178)) (nat_lit 0) .none .none .none .none .none .none .none (nat_lit 0))), ⟨[]⟩⟩
noncomputable def o552 : Obj := ⟨(.type "code"), .none, (.fields ⟨[(vs (u (nat_lit 2361506002213494275268710822670178)) (nat_lit 932)), (vs (u (nat_lit 2361506002213494275268710822670178)) (nat_lit 933)), (vs (u (nat_lit 9621326145873605890393926034223)) (nat_lit 934)), (vi (nat_lit 245) (nat_lit 0)), (vi (nat_lit 1) (nat_lit 0)), (vi (nat_lit 0) (nat_lit 0)), (vi (nat_lit 0) (nat_lit 0)), (vi (nat_lit 3) (nat_lit 0)), (.ref (nat_lit 547)), (.bool true), (vi (nat_lit 181) (nat_lit 0)), (.ref (nat_lit 548)), .none, (.ref (nat_lit 549)), (.ref (nat_lit 550)), (.ref (nat_lit 551)), (vi (nat_lit 936) (nat_lit 0)), (vi (nat_lit 245) (nat_lit 0)), (vs (u (nat_lit 9621326145873605890393926034223)) (nat_lit 937))]⟩), ⟨[]⟩⟩
noncomputable def o553 : Obj := ⟨(.type "function"), .none, (.func (fO (st1 (nat_lit 43)) false (u (nat_lit 2361506002213494275268710822670178)) (nat_lit 3) .none .none .none (vs (u (nat_lit 9445006827650914498653618408238052328826230)) (nat_lit 921)) .none (.ref (nat_lit 552)) .none (nat_lit 0))), ⟨[]⟩⟩
noncomputable def o556 : Obj := ⟨(.type "tuple"), .none, (.seq ⟨[(vs (u (nat_lit 6779489)) (nat_lit 942)), (vs (u (nat_lit 6775156)) (nat_lit 943)), (vs (u (nat_lit 435761734006)) (nat_lit 944))]⟩ (nat_lit 0)), ⟨[]⟩⟩
noncomputable def o558 : Obj := ⟨.none, .none, (.func (fO (st1 (nat_lit 44)) false (u (nat_lit 9224632821146462012768653700964)) (nat_lit 0) .none .none .none .none .none .none .none (nat_lit 0))), ⟨[]⟩⟩
noncomputable def o559 : Obj := ⟨(.type "code"), .none, (.fields ⟨[(vs (u (nat_lit 9224632821146462012768653700964)) (nat_lit 939)), (vs (u (nat_lit 9224632821146462012768653700964)) (nat_lit 940)), (vs (u (nat_lit 9621326145873605890393926034223)) (nat_lit 941)), (vi (nat_lit 249) (nat_lit 0)), (vi (nat_lit 1) (nat_lit 0)), (vi (nat_lit 0) (nat_lit 0)), (vi (nat_lit 0) (nat_lit 0)), (vi (nat_lit 3) (nat_lit 0)), (.ref (nat_lit 554)), (.bool true), (vi (nat_lit 181) (nat_lit 0)), (.ref (nat_lit 555)), .none, (.ref (nat_lit 556)), (.ref (nat_lit 557)), (.ref (nat_lit 558)), (vi (nat_lit 945) (nat_lit 0)), (vi (nat_lit 249) (nat_lit 0)), (vs (u (nat_lit 9621326145873605890393926034223)) (nat_lit 946))]⟩), ⟨[]⟩⟩
noncomputable def o560 : Obj := ⟨(.type "function"), .none, (.func (fO (st1 (nat_lit 44)) false (u (nat_lit 9224632821146462012768653700964)) (nat_lit 3) .none .none .none (vs (u (nat_lit 9445006827650914498653618408238052328826230)) (nat_lit 921)) .none (.ref (nat_lit 559)) .none (nat_lit 0))), ⟨[]⟩⟩
noncomputable def o563 : Obj := ⟨(.type "tuple"), .none, (.seq ⟨[(vs (u (nat_lit 32770348699510116)) (nat_lit 951)), (vs (u (nat_lit 7761509)) (nat_lit 952)), (vs (u (nat_lit 28555869292556912)) (nat_lit 953))]⟩ (nat_lit 0)), ⟨[]⟩⟩
noncomputable def o565 : Obj := ⟨.none, .none, (.func (fO (st1 (nat_lit 45)) false (u (nat_lit 537045991524533412672701041947862372)) (nat_lit 0) .none .none .none .none .none .none .none (nat_lit 0))), ⟨[]⟩⟩
noncomputable def o566 : Obj := ⟨(.type "code"), .none, (.fields ⟨[(vs (u (nat_lit 537045991524533412672701041947862372)) (nat_lit 948)), (vs (u (nat_lit 537045991524533412672701041947862372)) (nat_lit 949)), (vs (u (nat_lit 9621326145873605890393926034223)) (nat_lit 950)), (vi (nat_lit 254) (nat_lit 0)), (vi (nat_lit 2) (nat_lit 0)), (vi (nat_lit 0) (nat_lit 0)), (vi (nat_lit 0) (nat_lit 0)), (vi (nat_lit 3) (nat_lit 0)), (.ref (nat_lit 561)), (.bool true), (vi (nat_lit 181) (nat_lit 0)), (.ref (nat_lit 562)), .none, (.ref (nat_lit 563)), (.ref (nat_lit 564)), (.ref (nat_lit 565)), (vi (nat_lit 954) (nat_lit 0)), (vi (nat_lit 254) (nat_lit 0)), (vs (u (nat_lit 9621326145873605890393926034223)) (nat_lit 955))]⟩), ⟨[]⟩⟩
noncomputable def o567 : Obj := ⟨(.type "function"), .none, (.func (fO (st1 (nat_lit 45)) false (u (nat_lit 537045991524533412672701041947862372)) (nat_lit 3) .none .none .none (vs (u (nat_lit 9445006827650914498653618408238052328826230)) (nat_lit 921)) .none (.ref (nat_lit 566)) .none (nat_lit 0))), ⟨[]⟩⟩
noncomputable def o571 : Obj := ⟨.none, .none, (.func (fO (st1 (nat_lit 46)) false (u (nat_lit 35721800206462927246776494434)) (nat_lit 0) .none .none .none .none .none .none .none (nat_lit 0))), ⟨[]⟩⟩
noncomputable def o572 : Obj := ⟨(.type "code"), .none, (.fields ⟨[(vs (u (nat_lit 35721800206462927246776494434)) (nat_lit 957)), (vs (u (nat_lit 35721800206462927246776494434)) (nat_lit 958)), (vs (u (nat_lit 9621326145873605890393926034223)) (nat_lit 959)), (vi (nat_lit 260) (nat_lit 0)), (vi (nat_lit 4) (nat_lit 0)), (vi (nat_lit 0) (nat_lit 0)), (vi (nat_lit 0) (nat_lit 0)), (vi (nat_lit 3) (nat_lit 0)), (.ref (nat_lit 569)), (.bool true), (vi (nat_lit 181) (nat_lit 0)), (.ref (nat_lit 570)), .none, .none, .none, (.ref (nat_lit 571)), (vi (nat_lit 960) (nat_lit 0)), (vi (nat_lit 260) (nat_lit 0)), (vs (u (nat_lit 9621326145873605890393926034223)) (nat_lit 961))]⟩), ⟨[]⟩⟩
noncomputable def o573 : Obj := ⟨(.type "function"), .none, (.func (fO (st1 (nat_lit 46)) false (u (nat_lit 35721800206462927246776494434)) (nat_lit 3) (.ref (nat_lit 568)) .none .none (vs (u (nat_lit 9445006827650914498653618408238052328826230)) (nat_lit 921)) .none (.ref (nat_lit 572)) .none (nat_lit 0))), ⟨[]⟩⟩
noncomputable def o576 : Obj := ⟨(.type "tuple"), .none, (.seq ⟨[(vs (u (nat_lit 431349919586)) (nat_lit 966)), (vs (u (nat_lit 7761509)) (nat_lit 967))]⟩ (nat_lit 0)), ⟨[]⟩⟩
noncomputable def o578 : Obj := ⟨.none, .none, (.func (fO (st1 (nat_lit 47)) false (u (nat_lit 549795218527000316572521)) (nat_lit 0) .none .none .none .none .none .none .none (nat_lit 0))), ⟨[]⟩⟩
noncomputable def o579 : Obj := ⟨(.type "code"), .none, (.fields ⟨[(vs (u (nat_lit 549795218527000316572521)) (nat_lit 963)), (vs (u (nat_lit 549795218527000316572521)) (nat_lit 964)), (vs (u (nat_lit 9621326145873605890393926034223)) (nat_lit 965)), (vi (nat_lit 273) (nat_lit 0)), (vi (nat_lit 2) (nat_lit 0)), (vi (nat_lit 0) (nat_lit 0)), (vi (nat_lit 0) (nat_lit 0)), (vi (nat_lit 3) (nat_lit 0)), (.ref (nat_lit 574)), (.bool true), (vi (nat_lit 181) (nat_lit 0)), (.ref (nat_lit 575)), .none, (.ref (nat_lit 576)), (.ref (nat_lit 577)), (.ref (nat_lit 578)), (vi (nat_lit 968) (nat_lit 0)), (vi (nat_lit 273) (nat_lit 0)), (vs (u (nat_lit 9621326145873605890393926034223)) (nat_lit 969))]⟩), ⟨[]⟩⟩
noncomputable def o580 : Obj := ⟨(.type "function"), .none, (.func (fO (st1 (nat_lit 47)) false (u (nat_lit 549795218527000316572521)) (nat_lit 3) .none .none .none (vs (u (nat_lit 9445006827650914498653618408238052328826230)) (nat_lit 921)) .none (.ref (nat_lit 579)) .none (nat_lit 0))), ⟨[]⟩⟩
noncomputable def o583 : Obj := ⟨(.type "tuple"), .none, (.seq ⟨[(vs (u (nat_lit 123636630711913)) (nat_lit 974)), (vs (u (nat_lit 1701667182)) (nat_lit 975)), (vs (u (nat_lit 7761509)) (nat_lit 976)), (vs (u (nat_lit 431349919586)) (nat_lit 977)), (vs (u (nat_lit 1852138867)) (nat_lit 978))]⟩ (nat_lit 0)), ⟨[]⟩⟩
noncomputable def o585 : Obj := ⟨.none, .none, (.func (fO (st1 (nat_lit 48)) false (u (nat_lit 154763657361063560824011076847971559789)) (nat_lit 0) .none .none .none .none .none .none .none (nat_lit 0))), ⟨[]⟩⟩
noncomputable def o586 : Obj := ⟨(.type "code"), .none, (.fields ⟨[(vs (u (nat_lit 154763657361063560824011076847971559789)) (nat_lit 971)), (vs (u (nat_lit 154763657361063560824011076847971559789)) (nat_lit 972)), (vs (u (nat_lit 9621326145873605890393926034223)) (nat_lit 973)), (vi (nat_lit 275) (nat_lit 0)), (vi (nat_lit 3) (nat_lit 0)), (vi (nat_lit 0) (nat_lit 0)), (vi (nat_lit 0) (nat_lit 0)), (vi (nat_lit 3) (nat_lit 0)), (.ref (nat_lit 581)), (.bool true), (vi (nat_lit 181) (nat_lit 0)), (.ref (nat_lit 582)), .none, (.ref (nat_lit 583)), (.ref (nat_lit 584)), (.ref (nat_lit 585)), (vi (nat_lit 979) (nat_lit 0)), (vi (nat_lit 275) (nat_lit 0)), (vs (u (nat_lit 9621326145873605890393926034223)) (nat_lit 980))]⟩), ⟨[]⟩⟩
noncomputable def o587 : Obj := ⟨(.type "function"), .none, (.func (fO (st1 (nat_lit 48)) false (u (nat_lit 154763657361063560824011076847971559789)) (nat_lit 3) .none .none .none (vs (u (nat_lit 9445006827650914498653618408238052328826230)) (nat_lit 921)) .none (.ref (nat_lit 586)) .none (nat_lit 0))), ⟨[]⟩⟩
noncomputable def o590 : Obj := ⟨(.type "tuple"), .none, (.seq ⟨[(vs (u (nat_lit 7761509)) (nat_lit 985)), (vs (u (nat_lit 431349919590)) (nat_lit 986))]⟩ (nat_lit 0)), ⟨[]⟩⟩
noncomputable def o592 : Obj := ⟨.none, .none, (.func (fO (st1 (nat_lit 49)) false (u (nat_lit 28832903374073700)) (nat_lit 0) .none .none .none .none .none .none .none (nat_lit 0))), ⟨[]⟩⟩
noncomputable def o593 : Obj := ⟨(.type "code"), .none, (.fields ⟨[(vs (u (nat_lit 28832903374073700)) (nat_lit 982)), (vs (u (nat_lit 28832903374073700)) (nat_lit 983)), (vs (u (nat_lit 9621326145873605890393926034223)) (nat_lit 984)), (vi (nat_lit 303) (nat_lit 0)), (vi (nat_lit 1) (nat_lit 0)), (vi (nat_lit 0) (nat_lit 0)), (vi (nat_lit 0) (nat_lit 0)), (vi (nat_lit 3) (nat_lit 0)), (.ref (nat_lit 588)), (.bool true), (vi (nat_lit 181) (nat_lit 0)), (.ref (nat_lit 589)), .none, (.ref (nat_lit 590)), (.ref (nat_lit 591)), (.ref (nat_lit 592)), (vi (nat_lit 987) (nat_lit 0)), (vi (nat_lit 303) (nat_lit 0)), (vs (u (nat_lit 9621326145873605890393926034223)) (nat_lit 988))]⟩), ⟨[]⟩⟩
noncomputable def o594 : Obj := ⟨(.type "function"), .none, (.func (fO (st1 (nat_lit 49)) false (u (nat_lit 28832903374073700)) (nat_lit 3) .none .none .none (vs (u (nat_lit 9445006827650914498653618408238052328826230)) (nat_lit 921)) .none (.ref (nat_lit 593)) .none (nat_lit 0))), ⟨[]⟩⟩
noncomputable def o597 : Obj := ⟨(.type "tuple"), .none, (.seq ⟨[(vs (u (nat_lit 1701667182)) (nat_lit 993)), (vs (u (nat_lit 1918986339)) (nat_lit 994))]⟩ (nat_lit 0)), ⟨[]⟩⟩
noncomputable def o599 : Obj := ⟨.none, .none, (.func (fO (st1 (nat_lit 50)) false (u (nat_lit 8032801207806007333036490716009)) (nat_lit 0) .none .none .none .none .none .none .none (nat_lit 0))), ⟨[]⟩⟩
noncomputable def o600 : Obj := ⟨(.type "code"), .none, (.fields ⟨[(vs (u (nat_lit 8032801207806007333036490716009)) (nat_lit 990)), (vs (u (nat_lit 8032801207806007333036490716009)) (nat_lit 991)), (vs (u (nat_lit 9621326145873605890393926034223)) (nat_lit 992)), (vi (nat_lit 308) (nat_lit 0)), (vi (nat_lit 1) (nat_lit 0)), (vi (nat_lit 0) (nat_lit 0)), (vi (nat_lit 0) (nat_lit 0)), (vi (nat_lit 3) (nat_lit 0)), (.ref (nat_lit 595)), (.bool true), (vi (nat_lit 181) (nat_lit 0)), (.ref (nat_lit 596)), .none, (.ref (nat_lit 597)), (.ref (nat_lit 598)), (.ref (nat_lit 599)), (vi (nat_lit 995) (nat_lit 0)), (vi (nat_lit 308) (nat_lit 0)), (vs (u (nat_lit 9621326145873605890393926034223)) (nat_lit 996))]⟩), ⟨[]⟩⟩
noncomputable def o601 : Obj := ⟨(.type "function"), .none, (.func (fO (st1 (nat_lit 50)) false (u (nat_lit 8032801207806007333036490716009)) (nat_lit 3) .none .none .none (vs (u (nat_lit 9445006827650914498653618408238052328826230)) (nat_lit 921)) .none (.ref (nat_lit 600)) .none (nat_lit 0))), ⟨[]⟩⟩
noncomputable def o604 : Obj := ⟨(.type "tuple"), .none, (.seq ⟨[(vs (u (nat_lit 7761509)) (nat_lit 1001)), (vs (u (nat_lit 1701667182)) (nat_lit 1002)), (vs (u (nat_lit 1937010532)) (nat_lit 1003)), (vs (u (nat_lit 435459026032)) (nat_lit 1004)), (vs (u (nat_lit 1685221239)) (nat_lit 1005))]⟩ (nat_lit 0)), ⟨[]⟩⟩
noncomputable def o606 : Obj := ⟨.none, .none, (.func (fO (st1 (nat_lit 51)) false (u (nat_lit 478792262542605837168484)) (nat_lit 0) .none .none .none .none .none .none .none (nat_lit 0))), ⟨[]⟩⟩
noncomputable def o607 : Obj := ⟨(.type "code"), .none, (.fields ⟨[(vs (u (nat_lit 478792262542605837168484)) (nat_lit 998)), (vs (u (nat_lit 478792262542605837168484)) (nat_lit 999)), (vs (u (nat_lit 9621326145873605890393926034223)) (nat_lit 1000)), (vi (nat_lit 315) (nat_lit 0)), (vi (nat_lit 2) (nat_lit 0)), (vi (nat_lit 0) (nat_lit 0)), (vi (nat_lit 0) (nat_lit 0)), (vi (nat_lit 3) (nat_lit 0)), (.ref (nat_lit 602)), (.bool true), (vi (nat_lit 181) (nat_lit 0)), (.ref (nat_lit 603)), .none, (.ref (nat_lit 604)), (.ref (nat_lit 605)), (.ref (nat_lit 606)), (vi (nat_lit 1006) (nat_lit 0)), (vi (nat_lit 315) (nat_lit 0)), (vs (u (nat_lit 9621326145873605890393926034223)) (nat_lit 1007))]⟩), ⟨[]⟩⟩
noncomputable def o608 : Obj := ⟨(.type "function"), .none, (.func (fO (st1 (nat_lit 51)) false (u (nat_lit 478792262542605837168484)) (nat_lit 3) .none .none .none (vs (u (nat_lit 9445006827650914498653618408238052328826230)) (nat_lit 921)) .none (.ref (nat_lit 607)) .none (nat_lit 0))), ⟨[]⟩⟩
noncomputable def o611 : Obj := ⟨(.type "tuple"), .none, (.seq ⟨[(vs (u (nat_lit 1701667182)) (nat_lit 1012)), (vs (u (nat_lit 7761509)) (nat_lit 1013)), (vs (u (nat_lit 1852138867)) (nat_lit 1014)), (vs (u (nat_lit 431349919586)) (nat_lit 1015))]⟩ (nat_lit 0)), ⟨[]⟩⟩
noncomputable def o613 : Obj := ⟨.none, .none, (.func (fO (st1 (nat_lit 52)) false (u (nat_lit 562744125738994978909459153499943785)) (nat_lit 0) .none .none .none .none .none .none .none (nat_lit 0))), ⟨[]⟩⟩
noncomputable def o614 : Obj := ⟨(.type "code"), .none, (.fields ⟨[(vs (u (nat_lit 562744125738994978909459153499943785)) (nat_lit 1009)), (vs (u (nat_lit 562744125738994978909459153499943785)) (nat_lit 1010)), (vs (u (nat_lit 9621326145873605890393926034223)) (nat_lit 1011)), (vi (nat_lit 324) (nat_lit 0)), (vi (nat_lit 2) (nat_lit 0)), (vi (nat_lit 0) (nat_lit 0)), (vi (nat_lit 0) (nat_lit 0)), (vi (nat_lit 3) (nat_lit 0)), (.ref (nat_lit 609)), (.bool true), (vi (nat_lit 181) (nat_lit 0)), (.ref (nat_lit 610)), .none, (.ref (nat_lit 611)), (.ref (nat_lit 612)), (.ref (nat_lit 613)), (vi (nat_lit 1016) (nat_lit 0)), (vi (nat_lit 324) (nat_lit 0)), (vs (u (nat_lit 9621326145873605890393926034223)) (nat_lit 1017))]⟩), ⟨[]⟩⟩
noncomputable def o615 : Obj := ⟨(.type "function"), .none, (.func (fO (st1 (nat_lit 52)) false (u (nat_lit 562744125738994978909459153499943785)) (nat_lit 3) .none .none .none (vs (u (nat_lit 9445006827650914498653618408238052328826230)) (nat_lit 921)) .none (.ref (nat_lit 614)) .none (nat_lit 0))), ⟨[]⟩⟩
noncomputable def o618 : Obj := ⟨(.type "tuple"), .none, (.seq ⟨[(vs (u (nat_lit 101)) (nat_lit 1022)), (vs (u (nat_lit 7761509)) (nat_lit 1023))]⟩ (nat_lit 0)), ⟨[]⟩⟩
noncomputable def o620 : Obj := ⟨.none, .none, (.func (fO (st1 (nat_lit 53)) false (u (nat_lit 8035896067037232874723309745001)) (nat_lit 0) .none .none .none .none .none .none .none (nat_lit 0))), ⟨[]⟩⟩
noncomputable def o621 : Obj := ⟨(.type "code"), .none, (.fields ⟨[(vs (u (nat_lit 8035896067037232874723309745001)) (nat_lit 1019)), (vs (u (nat_lit 8035896067037232874723309745001)) (nat_lit 1020)), (vs (u (nat_lit 9621326145873605890393926034223)) (nat_lit 1021)), (vi (nat_lit 336) (nat_lit 0)), (vi (nat_lit 2) (nat_lit 0)), (vi (nat_lit 0) (nat_lit 0)), (vi (nat_lit 0) (nat_lit 0)), (vi (nat_lit 3) (nat_lit 0)), (.ref (nat_lit 616)), (.bool true), (vi (nat_lit 181) (nat_lit 0)), (.ref (nat_lit 617)), .none, (.ref (nat_lit 618)), (.ref (nat_lit 619)), (.ref (nat_lit 620)), (vi (nat_lit 1024) (nat_lit 0)), (vi (nat_lit 336) (nat_lit 0)), (vs (u (nat_lit 9621326145873605890393926034223)) (nat_lit 1025))]⟩), ⟨[]⟩⟩
noncomputable def o622 : Obj := ⟨(.type "function"), .none, (.func (fO (st1 (nat_lit 53)) false (u (nat_lit 8035896067037232874723309745001)) (nat_lit 3) .none .none .none (vs (u (nat_lit 9445006827650914498653618408238052328826230)) (nat_lit 921)) .none (.ref (nat_lit 621)) .none (nat_lit 0))), ⟨[]⟩⟩
noncomputable def o625 (P : Params) : Obj := ⟨(.type "dict"), .none, (.dict ⟨[en P (u (nat_lit 450384564904988244795231)) (nat_lit 1036) (vs (u (nat_lit 653310468779594700792456556249177723764994172278)) (nat_lit 1027)), en P (u (nat_lit 29516402862621713203914170207)) (nat_lit 1038) (vs (u (nat_lit 435626799686)) (nat_lit 1037)), en P (u (nat_lit 495203858965168609907421719000670047)) (nat_lit 1040) (vi (nat_lit 339) (nat_lit 1039)), en P (u (nat_lit 6872339552563453791)) (nat_lit 1052) (.ref (nat_lit 636)), en P (u (nat_lit 139387583093331537335747288891456728448373227741023)) (nat_lit 1060) (.ref (nat_lit 637))]⟩ (nat_lit 5)), ⟨[]⟩⟩
noncomputable def o627 : Obj := ⟨.none, .none, (.fields ⟨[(vi (nat_lit 341) (nat_lit 0)), (vi (nat_lit 4) (nat_lit 0)), (.ref (nat_lit 635))]⟩), ⟨[]⟩⟩
noncomputable def o628 : Obj := ⟨(.type "code"), .none, (.fields ⟨[(vs (u (nat_lit 435626799686)) (nat_lit 1031)), (vs (u (nat_lit 435626799686)) (nat_lit 1032)), (vs (u (nat_lit 9621326145873605890393926034223)) (nat_lit 1033)), (vi (nat_lit 339) (nat_lit 0)), (vi (nat_lit 0) (nat_lit 0)), (vi (nat_lit 0) (nat_lit 0)), (vi (nat_lit 0) (nat_lit 0)), (vi (nat_lit 0) (nat_lit 0)), (.ref (nat_lit 626)), (.bool false), (vi (nat_lit 181) (nat_lit 0)), (.ref (nat_lit 627)), .none, .none, .none, .none, (vi (nat_lit 1034) (nat_lit 0)), (vi (nat_lit 339) (nat_lit 0)), (vs (u (nat_lit 9621326145873605890393926034223)) (nat_lit 1035))]⟩), ⟨[]⟩⟩
noncomputable def o629 : Obj := ⟨(.type "frame"), .none, .plain, ⟨[(.some (.ref (nat_lit 628))), (.some (.ref (nat_lit 3))), (.some (.ref (nat_lit 625))), .none, (.some (vs (u (nat_lit 653310468779594700792456556249177723764994172278)) (nat_lit 1027))), .none, (.some (.ref (nat_lit 0)))]⟩⟩
noncomputable def o632 : Obj := ⟨(.type "tuple"), .none, (.seq ⟨[(vs (u (nat_lit 1718379891)) (nat_lit 1044)), (vs (u (nat_lit 1819042147)) (nat_lit 1045)), (vs (u (nat_lit 7957695015192261990)) (nat_lit 1046)), (vs (u (nat_lit 7761509)) (nat_lit 1047)), (vs (u (nat_lit 125779936305507)) (nat_lit 1048)), (vs (u (nat_lit 1936159329)) (nat_lit 1049))]⟩ (nat_lit 0)), ⟨[]⟩⟩
noncomputable def o634 : Obj := ⟨.none, .none, (.func (fO (st2 (nat_lit 55) (nat_lit 0)) false (u (nat_lit 1934391615505518231416380994974278)) (nat_lit 0) .none .none .none .none .none .none .none (nat_lit 0))), ⟨[]⟩⟩
noncomputable def o635 : Obj := ⟨(.type "code"), .none, (.fields ⟨[(vs (u (nat_lit 6872339552563453791)) (nat_lit 1041)), (vs (u (nat_lit 1934391615505518231416380994974278)) (nat_lit 1042)), (vs (u (nat_lit 9621326145873605890393926034223)) (nat_lit 1043)), (vi (nat_lit 341) (nat_lit 0)), (vi (nat_lit 6) (nat_lit 0)), (vi (nat_lit 0) (nat_lit 0)), (vi (nat_lit 0) (nat_lit 0)), (vi (nat_lit 3) (nat_lit 0)), (.ref (nat_lit 630)), (.bool true), (vi (nat_lit 181) (nat_lit 0)), (.ref (nat_lit 631)), .none, (.ref (nat_lit 632)), (.ref (nat_lit 633)), (.ref (nat_lit 634)), (vi (nat_lit 1050) (nat_lit 0)), (vi (nat_lit 341) (nat_lit 0)), (vs (u (nat_lit 9621326145873605890393926034223)) (nat_lit 1051))]⟩), ⟨[]⟩⟩
noncomputable def o636 : Obj := ⟨(.type "function"), .none, (.func (fO (st2 (nat_lit 55) (nat_lit 0)) false (u (nat_lit 1934391615505518231416380994974278)) (nat_lit 3) .none .none .none (vs (u (nat_lit 653310468779594700792456556249177723764994172278)) (nat_lit 1027)) .none (.ref (nat_lit 635)) .none (nat_lit 0))), ⟨[]⟩⟩
noncomputable def o637 : Obj := ⟨(.type "tuple"), .none, (.seq ⟨[(vs (u (nat_lit 1936159329)) (nat_lit 1053)), (vs (u (nat_lit 1819042147)) (nat_lit 1054)), (vs (u (nat_lit 125779936305507)) (nat_lit 1055)), (vs (u (nat_lit 7521983764486121828)) (nat_lit 1056)), (vs (u (nat_lit 7761509)) (nat_lit 1057)), (vs (u (nat_lit 7957695015192261990)) (nat_lit 1058)), (vs (u (nat_lit 32767063116181103)) (nat_lit 1059))]⟩ (nat_lit 0)), ⟨[]⟩⟩
noncomputable def o638 (P : Params) : Obj := ⟨(.type "dict"), .none, (.dict ⟨[en P (u (nat_lit 450384564904988244795231)) (nat_lit 1036) (vs (u (nat_lit 653310468779594700792456556249177723764994172278)) (nat_lit 1027)), en P (u (nat_lit 495203858965168609907421719000670047)) (nat_lit 1040) (vi (nat_lit 339) (nat_lit 1039)), en P (u (nat_lit 6872339552563453791)) (nat_lit 1052) (.ref (nat_lit 636)), en P (u (nat_lit 139387583093331537335747288891456728448373227741023)) (nat_lit 1060) (.ref (nat_lit 637)), en P (u (nat_lit 6872339526709436255)) (nat_lit 1062) (.ref (nat_lit 640)), en P (u (nat_lit 115298466557181117500710751)) (nat_lit 1064) (.ref (nat_lit 641)), en P (u (nat_lit 26845003462762335)) (nat_lit 1065) .none]⟩ (nat_lit 4)), ⟨[]⟩⟩
noncomputable def o639 : Obj := ⟨(.type "type"), .none, (.cls ⟨(u (nat_lit 435626799686)), [(.type "object")], [(.ref (nat_lit 639)), (.type "object")], (nat_lit 638), (u (nat_lit 435626799686)), true, [], [], false, .none, false⟩), ⟨[.none, .none, (.some (vs (u (nat_lit 435626799686)) (nat_lit 1029))), (.some (vs (u (nat_lit 435626799686)) (nat_lit 1037))), (.some (.builtin "object.__new__")), (.some (.bool true))]⟩⟩
noncomputable def o640 : Obj := ⟨(.type "getset_descriptor"), .none, (.fields ⟨[(vs (u (nat_lit 6872339526709436255)) (nat_lit 1061)), (.ref (nat_lit 639)), (.builtin "function.__dict__"), (.builtin "function.__dict__#set")]⟩), ⟨[]⟩⟩
noncomputable def o641 : Obj := ⟨(.type "getset_descriptor"), .none, (.fields ⟨[(vs (u (nat_lit 115298466557181117500710751)) (nat_lit 1063)), (.ref (nat_lit 639)), (.builtin "ExceptionGroup.__weakref__"), .none]⟩), ⟨[]⟩⟩
noncomputable def o642 : Obj := ⟨(.type "super"), .none, (.fields ⟨[(.ref (nat_lit 639)), (.ref (nat_lit 639)), (.ref (nat_lit 639))]⟩), ⟨[]⟩⟩
noncomputable def o643 : Obj := ⟨(.type "builtin_function_or_method"), .none, (.fields ⟨[(.builtin "object.__init_subclass__"), (.ref (nat_lit 639))]⟩), ⟨[]⟩⟩
noncomputable def o646 (P : Params) : Obj := ⟨(.type "dict"), .none, (.dict ⟨[en P (u (nat_lit 450384564904988244795231)) (nat_lit 1075) (vs (u (nat_lit 653310468779594700792456556249177723764994172278)) (nat_lit 1027)), en P (u (nat_lit 29516402862621713203914170207)) (nat_lit 1077) (vs (u (nat_lit 2110959975595354715717)) (nat_lit 1076)), en P (u (nat_lit 495203858965168609907421719000670047)) (nat_lit 1079) (vi (nat_lit 349) (nat_lit 1078)), en P (u (nat_lit 6872339552563453791)) (nat_lit 1090) (.ref (nat_lit 658)), en P (u (nat_lit 33335428924269934)) (nat_lit 1099) (.ref (nat_lit 665)), en P (u (nat_lit 111524889126244)) (nat_lit 1111) (.ref (nat_lit 673)), en P (u (nat_lit 1801677172)) (nat_lit 1118) (.ref (nat_lit 680)), en P (u (nat_lit 35416022345623109501798803827)) (nat_lit 1127) (.ref (nat_lit 687)), en P (u (nat_lit 7812726516083745143)) (nat_lit 1138) (.ref (nat_lit 695)), en P (u (nat_lit 33555404951874733781283665266)) (nat_lit 1145) (.ref (nat_lit 702)), en P (u (nat_lit 1818326629)) (nat_lit 1155) (.ref (nat_lit 709)), en P (u (nat_lit 7308324465835925878)) (nat_lit 1166) (.ref (nat_lit 716)), en P (u (nat_lit 479125093479839352254308)) (nat_lit 1176) (.ref (nat_lit 723)), en P (u (nat_lit 435460140902)) (nat_lit 1184) (.ref (nat_lit 730)), en P (u (nat_lit 8749578199499005030634059884902)) (nat_lit 1195) (.ref (nat_lit 738)), en P (u (nat_lit 123836376678672724038415718)) (nat_lit 1206) (.ref (nat_lit 745)), en P (u (nat_lit 2000057992450960094821)) (nat_lit 1215) (.ref (nat_lit 752)), en P (u (nat_lit 512014846067454507052144)) (nat_lit 1227) (.ref (nat_lit 759)), en P (u (nat_lit 139576318588897311753138291)) (nat_lit 1236) (.ref (nat_lit 766)), en P (u (nat_lit 35715835634862239300621136496)) (nat_lit 1249) (.ref (nat_lit 773)), en P (u (nat_lit 544980402143339280294245)) (nat_lit 1266) (.ref (nat_lit 781)), en P (u (nat_lit 1908256613360397741413)) (nat_lit 1278) (.ref (nat_lit 788)), en P (u (nat_lit 33542144547225720111116345699)) (nat_lit 1291) (.ref (nat_lit 795)), en P (u (nat_lit 34170838085766954570784465251)) (nat_lit 1307) (.ref (nat_lit 802)), en P (u (nat_lit 8037467694508770659740870013025)) (nat_lit 1326) (.ref (nat_lit 810)), en P (u (nat_lit 435777791340)) (nat_lit 1338) (.ref (nat_lit 817)), en P (u (nat_lit 2129763936634340799858)) (nat_lit 1349) (.ref (nat_lit 824)), en P (u (nat_lit 125780121053299)) (nat_lit 1358) (.ref (nat_lit 831)), en P (u (nat_lit 479125093479839234285923)) (nat_lit 1369) (.ref (nat_lit 839)), en P (u (nat_lit 7239026)) (nat_lit 1379) (.ref (nat_lit 846)), en P (u (nat_lit 139387583093331537335747288891456728448373227741023)) (nat_lit 1399) (.ref (nat_lit 847))]⟩ (nat_lit 31)), ⟨[]⟩⟩
noncomputable def o648 : Obj := ⟨.none, .none, (.fields ⟨[(vi (nat_lit 351) (nat_lit 0)), (vi (nat_lit 4) (nat_lit 0)), (.ref (nat_lit 657)), (vi (nat_lit 372) (nat_lit 0)), (vi (nat_lit 4) (nat_lit 0)), (.ref (nat_lit 664)), (vi (nat_lit 377) (nat_lit 0)), (vi (nat_lit 4) (nat_lit 0)), (.ref (nat_lit 672)), (vi (nat_lit 380) (nat_lit 0)), (vi (nat_lit 4) (nat_lit 0)), (.ref (nat_lit 679)), (vi (nat_lit 385) (nat_lit 0)), (vi (nat_lit 4) (nat_lit 0)), (.ref (nat_lit 686)), (vi (nat_lit 390) (nat_lit 0)), (vi (nat_lit 4) (nat_lit 0)), (.ref (nat_lit 694)), (vi (nat_lit 401) (nat_lit 0)), (vi (nat_lit 4) (nat_lit 0)), (.ref (nat_lit 701)), (vi (nat_lit 406) (nat_lit 0)), (vi (nat_lit 4) (nat_lit 0)), (.ref (nat_lit 708)), (vi (nat_lit 419) (nat_lit 0)), (vi (nat_lit 4) (nat_lit 0)), (.ref (nat_lit 715)), (vi (nat_lit 437) (nat_lit 0)), (vi (nat_lit 4) (nat_lit 0)), (.ref (nat_lit 722)), (vi (nat_lit 443) (nat_lit 0)), (vi (nat_lit 4) (nat_lit 0)), (.ref (nat_lit 729)), (vi (nat_lit 457) (nat_lit 0)), (vi (nat_lit 4) (nat_lit 0)), (.ref (nat_lit 737)), (vi (nat_lit 470) (nat_lit 0)), (vi (nat_lit 4) (nat_lit 0)), (.ref (nat_lit 744)), (vi (nat_lit 481) (nat_lit 0)), (vi (nat_lit 4) (nat_lit 0)), (.ref (nat_lit 751)), (vi (nat_lit 484) (nat_lit 0)), (vi (nat_lit 4) (nat_lit 0)), (.ref (nat_lit 758)), (vi (nat_lit 497) (nat_lit 0)), (vi (nat_lit 4) (nat_lit 0)), (.ref (nat_lit 765)), (vi (nat_lit 503) (nat_lit 0)), (vi (nat_lit 4) (nat_lit 0)), (.ref (nat_lit 772)), (vi (nat_lit 515) (nat_lit 0)), (vi (nat_lit 4) (nat_lit 0)), (.ref (nat_lit 780)), (vi (nat_lit 533) (nat_lit 0)), (vi (nat_lit 4) (nat_lit 0)), (.ref (nat_lit 787)), (vi (nat_lit 539) (nat_lit 0)), (vi (nat_lit 4) (nat_lit 0)), (.ref (nat_lit 794)), (vi (nat_lit 551) (nat_lit 0)), (vi (nat_lit 4) (nat_lit 0)), (.ref (nat_lit 801)), (vi (nat_lit 569) (nat_lit 0)), (vi (nat_lit 4) (nat_lit 0)), (.ref (nat_lit 809)), (vi (nat_lit 603) (nat_lit 0)), (vi (nat_lit 4) (nat_lit 0)), (.ref (nat_lit 816)), (vi (nat_lit 623) (nat_lit 0)), (vi (nat_lit 4) (nat_lit 0)), (.ref (nat_lit 823)), (vi (nat_lit 634) (nat_lit 0)), (vi (nat_lit 4) (nat_lit 0)), (.ref (nat_lit 830)), (vi (nat_lit 645) (nat_lit 0)), (vi (nat_lit 4) (nat_lit 0)), (.ref (nat_lit 838)), (vi (nat_lit 648) (nat_lit 0)), (vi (nat_lit 4) (nat_lit 0)), (.ref (nat_lit 845))]⟩), ⟨[]⟩⟩
noncomputable def o649 : Obj := ⟨(.type "code"), .none, (.fields ⟨[(vs (u (nat_lit 2110959975595354715717)) (nat_lit 1070)), (vs (u (nat_lit 2110959975595354715717)) (nat_lit 1071)), (vs (u (nat_lit 9621326145873605890393926034223)) (nat_lit 1072)), (vi (nat_lit 349) (nat_lit 0)), (vi (nat_lit 0) (nat_lit 0)), (vi (nat_lit 0) (nat_lit 0)), (vi (nat_lit 0) (nat_lit 0)), (vi (nat_lit 0) (nat_lit 0)), (.ref (nat_lit 647)), (.bool false), (vi (nat_lit 181) (nat_lit 0)), (.ref (nat_lit 648)), .none, .none, .none, .none, (vi (nat_lit 1073) (nat_lit 0)), (vi (nat_lit 349) (nat_lit 0)), (vs (u (nat_lit 9621326145873605890393926034223)) (nat_lit 1074))]⟩), ⟨[]⟩⟩
noncomputable def o650 : Obj := ⟨(.type "frame"), .none, .plain, ⟨[(.some (.ref (nat_lit 649))), (.some (.ref (nat_lit 3))), (.some (.ref (nat_lit 646))), .none, (.some (vs (u (nat_lit 653310468779594700792456556249177723764994172278)) (nat_lit 1027))), .none, (.some (.ref (nat_lit 0)))]⟩⟩
noncomputable def o651 : Obj := ⟨(.type "tuple"), .none, (.seq ⟨[(vi (nat_lit 20000) (nat_lit 1080)), (vi (nat_lit 40) (nat_lit 1081))]⟩ (nat_lit 0)), ⟨[]⟩⟩
noncomputable def o654 : Obj := ⟨(.type "tuple"), .none, (.seq ⟨[(vs (u (nat_lit 1718379891)) (nat_lit 1085)), (vs (u (nat_lit 499984984428)) (nat_lit 1086)), (vs (u (nat_lit 139505445987343552784592749)) (nat_lit 1087))]⟩ (nat_lit 0)), ⟨[]⟩⟩
noncomputable def o656 : Obj := ⟨.none, .none, (.func (fO (st2 (nat_lit 56) (nat_lit 0)) false (u (nat_lit 8308148726252807311465356089208147212858949)) (nat_lit 0) .none .none .none .none .none .none .none (nat_lit 0))), ⟨[]⟩⟩
noncomputable def o657 : Obj := ⟨(.type "code"), .none, (.fields ⟨[(vs (u (nat_lit 6872339552563453791)) (nat_lit 1082)), (vs (u (nat_lit 8308148726252807311465356089208147212858949)) (nat_lit 1083)), (vs (u (nat_lit 9621326145873605890393926034223)) (nat_lit 1084)), (vi (nat_lit 351) (nat_lit 0)), (vi (nat_lit 3) (nat_lit 0)), (vi (nat_lit 0) (nat_lit 0)), (vi (nat_lit 0) (nat_lit 0)), (vi (nat_lit 3) (nat_lit 0)), (.ref (nat_lit 652)), (.bool true), (vi (nat_lit 181) (nat_lit 0)), (.ref (nat_lit 653)), .none, (.ref (nat_lit 654)), (.ref (nat_lit 655)), (.ref (nat_lit 656)), (vi (nat_lit 1088) (nat_lit 0)), (vi (nat_lit 351) (nat_lit 0)), (vs (u (nat_lit 9621326145873605890393926034223)) (nat_lit 1089))]⟩), ⟨[]⟩⟩
noncomputable def o658 : Obj := ⟨(.type "function"), .none, (.func (fO (st2 (nat_lit 56) (nat_lit 0)) false (u (nat_lit 8308148726252807311465356089208147212858949)) (nat_lit 3) (.ref (nat_lit 651)) .none .none (vs (u (nat_lit 653310468779594700792456556249177723764994172278)) (nat_lit 1027)) .none (.ref (nat_lit 657)) .none (nat_lit 0))), ⟨[]⟩⟩
noncomputable def o661 : Obj := ⟨(.type "tuple"), .none, (.seq ⟨[(vs (u (nat_lit 1718379891)) (nat_lit 1094)), (vs (u (nat_lit 128017497219440)) (nat_lit 1095)), (vs (u (nat_lit 7761509)) (nat_lit 1096))]⟩ (nat_lit 0)), ⟨[]⟩⟩
noncomputable def o663 : Obj := ⟨.none, .none, (.func (fO (st2 (nat_lit 56) (nat_lit 1)) false (u (nat_lit 40300060734478246325566182131078795458117)) (nat_lit 0) .none .none .none .none .none .none .none (nat_lit 0))), ⟨[]⟩⟩
noncomputable def o664 : Obj := ⟨(.type "code"), .none, (.fields ⟨[(vs (u (nat_lit 33335428924269934)) (nat_lit 1091)), (vs (u (nat_lit 40300060734478246325566182131078795458117)) (nat_lit 1092)), (vs (u (nat_lit 9621326145873605890393926034223)) (nat_lit 1093)), (vi (nat_lit 372) (nat_lit 0)), (vi (nat_lit 2) (nat_lit 0)), (vi (nat_lit 0) (nat_lit 0)), (vi (nat_lit 0) (nat_lit 0)), (vi (nat_lit 3) (nat_lit 0)), (.ref (nat_lit 659)), (.bool true), (vi (nat_lit 181) (nat_lit 0)), (.ref (nat_lit 660)), .none, (.ref (nat_lit 661)), (.ref (nat_lit 662)), (.ref (nat_lit 663)), (vi (nat_lit 1097) (nat_lit 0)), (vi (nat_lit 372) (nat_lit 0)), (vs (u (nat_lit 9621326145873605890393926034223)) (nat_lit 1098))]⟩), ⟨[]⟩⟩
noncomputable def o665 : Obj := ⟨(.type "function"), .none, (.func (fO (st2 (nat_lit 56) (nat_lit 1)) false (u (nat_lit 40300060734478246325566182131078795458117)) (nat_lit 3) .none .none .none (vs (u (nat_lit 653310468779594700792456556249177723764994172278)) (nat_lit 1027)) .none (.ref (nat_lit 664)) .none (nat_lit 0))), ⟨[]⟩⟩
noncomputable def o666 : Obj := ⟨(.type "tuple"), .none, (.seq ⟨[(vs (u (nat_lit 0)) (nat_lit 1100))]⟩ (nat_lit 0)), ⟨[]⟩⟩
noncomputable def o669 : Obj := ⟨(.type "tuple"), .none, (.seq ⟨[(vs (u (nat_lit 1718379891)) (nat_lit 1104)), (vs (u (nat_lit 1701667182)) (nat_lit 1105)), (vs (u (nat_lit 30506402751803507)) (nat_lit 1106)), (vs (u (nat_lit 28262)) (nat_lit 1107)), (vs (u (nat_lit 483006575207)) (nat_lit 1108))]⟩ (nat_lit 0)), ⟨[]⟩⟩
noncomputable def o671 : Obj := ⟨.none, .none, (.func (fO (st2 (nat_lit 56) (nat_lit 2)) false (u (nat_lit 134825317994375391996515319145105028677)) (nat_lit 0) .none .none .none .none .none .none .none (nat_lit 0))), ⟨[]⟩⟩
noncomputable def o672 : Obj := ⟨(.type "code"), .none, (.fields ⟨[(vs (u (nat_lit 111524889126244)) (nat_lit 1101)), (vs (u (nat_lit 134825317994375391996515319145105028677)) (nat_lit 1102)), (vs (u (nat_lit 9621326145873605890393926034223)) (nat_lit 1103)), (vi (nat_lit 377) (nat_lit 0)), (vi (nat_lit 5) (nat_lit 0)), (vi (nat_lit 0) (nat_lit 0)), (vi (nat_lit 0) (nat_lit 0)), (vi (nat_lit 3) (nat_lit 0)), (.ref (nat_lit 667)), (.bool true), (vi (nat_lit 181) (nat_lit 0)), (.ref (nat_lit 668)), .none, (.ref (nat_lit 669)), (.ref (nat_lit 670)), (.ref (nat_lit 671)), (vi (nat_lit 1109) (nat_lit 0)), (vi (nat_lit 377) (nat_lit 0)), (vs (u (nat_lit 9621326145873605890393926034223)) (nat_lit 1110))]⟩), ⟨[]⟩⟩
noncomputable def o673 : Obj := ⟨(.type "function"), .none, (.func (fO (st2 (nat_lit 56) (nat_lit 2)) false (u (nat_lit 134825317994375391996515319145105028677)) (nat_lit 3) (.ref (nat_lit 666)) .none .none (vs (u (nat_lit 653310468779594700792456556249177723764994172278)) (nat_lit 1027)) .none (.ref (nat_lit 672)) .none (nat_lit 0))), ⟨[]⟩⟩
noncomputable def o676 : Obj := ⟨(.type "tuple"), .none, (.seq ⟨[(vs (u (nat_lit 1718379891)) (nat_lit 1115))]⟩ (nat_lit 0)), ⟨[]⟩⟩
noncomputable def o678 : Obj := ⟨.none, .none, (.func (fO (st2 (nat_lit 56) (nat_lit 3)) false (u (nat_lit 2178094052060407039500916141160005)) (nat_lit 0) .none .none .none .none .none .none .none (nat_lit 0))), ⟨[]⟩⟩
noncomputable def o679 : Obj := ⟨(.type "code"), .none, (.fields ⟨[(vs (u (nat_lit 1801677172)) (nat_lit 1112)), (vs (u (nat_lit 2178094052060407039500916141160005)) (nat_lit 1113)), (vs (u (nat_lit 9621326145873605890393926034223)) (nat_lit 1114)), (vi (nat_lit 380) (nat_lit 0)), (vi (nat_lit 1) (nat_lit 0)), (vi (nat_lit 0) (nat_lit 0)), (vi (nat_lit 0) (nat_lit 0)), (vi (nat_lit 3) (nat_lit 0)), (.ref (nat_lit 674)), (.bool true), (vi (nat_lit 181) (nat_lit 0)), (.ref (nat_lit 675)), .none, (.ref (nat_lit 676)), (.ref (nat_lit 677)), (.ref (nat_lit 678)), (vi (nat_lit 1116) (nat_lit 0)), (vi (nat_lit 380) (nat_lit 0)), (vs (u (nat_lit 9621326145873605890393926034223)) (nat_lit 1117))]⟩), ⟨[]⟩⟩
noncomputable def o680 : Obj := ⟨(.type "function"), .none, (.func (fO (st2 (nat_lit 56) (nat_lit 3)) false (u (nat_lit 2178094052060407039500916141160005)) (nat_lit 3) .none .none .none (vs (u (nat_lit 653310468779594700792456556249177723764994172278)) (nat_lit 1027)) .none (.ref (nat_lit 679)) .none (nat_lit 0))), ⟨[]⟩⟩
noncomputable def o683 : Obj := ⟨(.type "tuple"), .none, (.seq ⟨[(vs (u (nat_lit 1718379891)) (nat_lit 1122)), (vs (u (nat_lit 28542640894207341)) (nat_lit 1123)), (vs (u (nat_lit 1819042147)) (nat_lit 1124))]⟩ (nat_lit 0)), ⟨[]⟩⟩
noncomputable def o685 : Obj := ⟨.none, .none, (.func (fO (st2 (nat_lit 56) (nat_lit 4)) false (u (nat_lit 42815343841672439305454620194340544417106920023881285)) (nat_lit 0) .none .none .none .none .none .none .none (nat_lit 0))), ⟨[]⟩⟩
noncomputable def o686 : Obj := ⟨(.type "code"), .none, (.fields ⟨[(vs (u (nat_lit 35416022345623109501798803827)) (nat_lit 1119)), (vs (u (nat_lit 42815343841672439305454620194340544417106920023881285)) (nat_lit 1120)), (vs (u (nat_lit 9621326145873605890393926034223)) (nat_lit 1121)), (vi (nat_lit 385) (nat_lit 0)), (vi (nat_lit 3) (nat_lit 0)), (vi (nat_lit 0) (nat_lit 0)), (vi (nat_lit 0) (nat_lit 0)), (vi (nat_lit 3) (nat_lit 0)), (.ref (nat_lit 681)), (.bool true), (vi (nat_lit 181) (nat_lit 0)), (.ref (nat_lit 682)), .none, (.ref (nat_lit 683)), (.ref (nat_lit 684)), (.ref (nat_lit 685)), (vi (nat_lit 1125) (nat_lit 0)), (vi (nat_lit 385) (nat_lit 0)), (vs (u (nat_lit 9621326145873605890393926034223)) (nat_lit 1126))]⟩), ⟨[]⟩⟩
noncomputable def o687 : Obj := ⟨(.type "function"), .none, (.func (fO (st2 (nat_lit 56) (nat_lit 4)) false (u (nat_lit 42815343841672439305454620194340544417106920023881285)) (nat_lit 3) .none .none .none (vs (u (nat_lit 653310468779594700792456556249177723764994172278)) (nat_lit 1027)) .none (.ref (nat_lit 686)) .none (nat_lit 0))), ⟨[]⟩⟩
noncomputable def o691 : Obj := ⟨(.type "tuple"), .none, (.seq ⟨[(vs (u (nat_lit 1718379891)) (nat_lit 1131)), (vs (u (nat_lit 495623368558)) (nat_lit 1132)), (vs (u (nat_lit 1819042147)) (nat_lit 1133)), (vs (u (nat_lit 28548142579542390)) (nat_lit 1134)), (vs (u (nat_lit 1702129518)) (nat_lit 1135))]⟩ (nat_lit 0)), ⟨[]⟩⟩
noncomputable def o693 : Obj := ⟨.none, .none, (.func (fO (st2 (nat_lit 56) (nat_lit 5)) false (u (nat_lit 9445006806881487920593496887478155726648901)) (nat_lit 0) .none .none .none .none .none .none .none (nat_lit 0))), ⟨[]⟩⟩
noncomputable def o694 : Obj := ⟨(.type "code"), .none, (.fields ⟨[(vs (u (nat_lit 7812726516083745143)) (nat_lit 1128)), (vs (u (nat_lit 9445006806881487920593496887478155726648901)) (nat_lit 1129)), (vs (u (nat_lit 9621326145873605890393926034223)) (nat_lit 1130)), (vi (nat_lit 390) (nat_lit 0)), (vi (nat_lit 3) (nat_lit 0)), (vi (nat_lit 0) (nat_lit 0)), (vi (nat_lit 0) (nat_lit 0)), (vi (nat_lit 3) (nat_lit 0)), (.ref (nat_lit 689)), (.bool true), (vi (nat_lit 181) (nat_lit 0)), (.ref (nat_lit 690)), .none, (.ref (nat_lit 691)), (.ref (nat_lit 692)), (.ref (nat_lit 693)), (vi (nat_lit 1136) (nat_lit 0)), (vi (nat_lit 390) (nat_lit 0)), (vs (u (nat_lit 9621326145873605890393926034223)) (nat_lit 1137))]⟩), ⟨[]⟩⟩
noncomputable def o695 : Obj := ⟨(.type "function"), .none, (.func (fO (st2 (nat_lit 56) (nat_lit 5)) false (u (nat_lit 9445006806881487920593496887478155726648901)) (nat_lit 3) (.ref (nat_lit 688)) .none .none (vs (u (nat_lit 653310468779594700792456556249177723764994172278)) (nat_lit 1027)) .none (.ref (nat_lit 694)) .none (nat_lit 0))), ⟨[]⟩⟩
noncomputable def o698 : Obj := ⟨(.type "tuple"), .none, (.seq ⟨[(vs (u (nat_lit 1718379891)) (nat_lit 1142))]⟩ (nat_lit 0)), ⟨[]⟩⟩
noncomputable def o700 : Obj := ⟨.none, .none, (.func (fO (st2 (nat_lit 56) (nat_lit 6)) false (u (nat_lit 40565995433945948974447620925995610517053442921428549)) (nat_lit 0) .none .none .none .none .none .none .none (nat_lit 0))), ⟨[]⟩⟩
noncomputable def o701 : Obj := ⟨(.type "code"), .none, (.fields ⟨[(vs (u (nat_lit 33555404951874733781283665266)) (nat_lit 1139)), (vs (u (nat_lit 40565995433945948974447620925995610517053442921428549)) (nat_lit 1140)), (vs (u (nat_lit 9621326145873605890393926034223)) (nat_lit 1141)), (vi (nat_lit 401) (nat_lit 0)), (vi (nat_lit 1) (nat_lit 0)), (vi (nat_lit 0) (nat_lit 0)), (vi (nat_lit 0) (nat_lit 0)), (vi (nat_lit 3) (nat_lit 0)), (.ref (nat_lit 696)), (.bool true), (vi (nat_lit 181) (nat_lit 0)), (.ref (nat_lit 697)), .none, (.ref (nat_lit 698)), (.ref (nat_lit 699)), (.ref (nat_lit 700)), (vi (nat_lit 1143) (nat_lit 0)), (vi (nat_lit 401) (nat_lit 0)), (vs (u (nat_lit 9621326145873605890393926034223)) (nat_lit 1144))]⟩), ⟨[]⟩⟩
noncomputable def o702 : Obj := ⟨(.type "function"), .none, (.func (fO (st2 (nat_lit 56) (nat_lit 6)) false (u (nat_lit 40565995433945948974447620925995610517053442921428549)) (nat_lit 3) .none .none .none (vs (u (nat_lit 653310468779594700792456556249177723764994172278)) (nat_lit 1027)) .none (.ref (nat_lit 701)) .none (nat_lit 0))), ⟨[]⟩⟩
noncomputable def o705 : Obj := ⟨(.type "tuple"), .none, (.seq ⟨[(vs (u (nat_lit 1718379891)) (nat_lit 1149)), (vs (u (nat_lit 101)) (nat_lit 1150)), (vs (u (nat_lit 7761509)) (nat_lit 1151)), (vs (u (nat_lit 1684957547)) (nat_lit 1152))]⟩ (nat_lit 0)), ⟨[]⟩⟩
noncomputable def o707 : Obj := ⟨.none, .none, (.func (fO (st2 (nat_lit 56) (nat_lit 7)) false (u (nat_lit 2198222010510270564516132106106437)) (nat_lit 0) .none .none .none .none .none .none .none (nat_lit 0))), ⟨[]⟩⟩
noncomputable def o708 : Obj := ⟨(.type "code"), .none, (.fields ⟨[(vs (u (nat_lit 1818326629)) (nat_lit 1146)), (vs (u (nat_lit 2198222010510270564516132106106437)) (nat_lit 1147)), (vs (u (nat_lit 9621326145873605890393926034223)) (nat_lit 1148)), (vi (nat_lit 406) (nat_lit 0)), (vi (nat_lit 3) (nat_lit 0)), (vi (nat_lit 0) (nat_lit 0)), (vi (nat_lit 0) (nat_lit 0)), (vi (nat_lit 3) (nat_lit 0)), (.ref (nat_lit 703)), (.bool true), (vi (nat_lit 181) (nat_lit 0)), (.ref (nat_lit 704)), .none, (.ref (nat_lit 705)), (.ref (nat_lit 706)), (.ref (nat_lit 707)), (vi (nat_lit 1153) (nat_lit 0)), (vi (nat_lit 406) (nat_lit 0)), (vs (u (nat_lit 9621326145873605890393926034223)) (nat_lit 1154))]⟩), ⟨[]⟩⟩
noncomputable def o709 : Obj := ⟨(.type "function"), .none, (.func (fO (st2 (nat_lit 56) (nat_lit 7)) false (u (nat_lit 2198222010510270564516132106106437)) (nat_lit 3) .none .none .none (vs (u (nat_lit 653310468779594700792456556249177723764994172278)) (nat_lit 1027)) .none (.ref (nat_lit 708)) .none (nat_lit 0))), ⟨[]⟩⟩
noncomputable def o712 : Obj := ⟨(.type "tuple"), .none, (.seq ⟨[(vs (u (nat_lit 1718379891)) (nat_lit 1159)), (vs (u (nat_lit 1701667182)) (nat_lit 1160)), (vs (u (nat_lit 7761509)) (nat_lit 1161)), (vs (u (nat_lit 431349919590)) (nat_lit 1162)), (vs (u (nat_lit 28542640894207341)) (nat_lit 1163))]⟩ (nat_lit 0)), ⟨[]⟩⟩
noncomputable def o714 : Obj := ⟨.none, .none, (.func (fO (st2 (nat_lit 56) (nat_lit 8)) false (u (nat_lit 8835222144870343646825473580094114599368261)) (nat_lit 0) .none .none .none .none .none .none .none (nat_lit 0))), ⟨[]⟩⟩
noncomputable def o715 : Obj := ⟨(.type "code"), .none, (.fields ⟨[(vs (u (nat_lit 7308324465835925878)) (nat_lit 1156)), (vs (u (nat_lit 8835222144870343646825473580094114599368261)) (nat_lit 1157)), (vs (u (nat_lit 9621326145873605890393926034223)) (nat_lit 1158)), (vi (nat_lit 419) (nat_lit 0)), (vi (nat_lit 3) (nat_lit 0)), (vi (nat_lit 0) (nat_lit 0)), (vi (nat_lit 0) (nat_lit 0)), (vi (nat_lit 3) (nat_lit 0)), (.ref (nat_lit 710)), (.bool true), (vi (nat_lit 181) (nat_lit 0)), (.ref (nat_lit 711)), .none, (.ref (nat_lit 712)), (.ref (nat_lit 713)), (.ref (nat_lit 714)), (vi (nat_lit 1164) (nat_lit 0)), (vi (nat_lit 419) (nat_lit 0)), (vs (u (nat_lit 9621326145873605890393926034223)) (nat_lit 1165))]⟩), ⟨[]⟩⟩
noncomputable def o716 : Obj := ⟨(.type "function"), .none, (.func (fO (st2 (nat_lit 56) (nat_lit 8)) false (u (nat_lit 8835222144870343646825473580094114599368261)) (nat_lit 3) .none .none .none (vs (u (nat_lit 653310468779594700792456556249177723764994172278)) (nat_lit 1027)) .none (.ref (nat_lit 715)) .none (nat_lit 0))), ⟨[]⟩⟩
noncomputable def o719 : Obj := ⟨(.type "tuple"), .none, (.seq ⟨[(vs (u (nat_lit 1718379891)) (nat_lit 1170)), (vs (u (nat_lit 1701667182)) (nat_lit 1171)), (vs (u (nat_lit 7761509)) (nat_lit 1172)), (vs (u (nat_lit 30506446003529074)) (nat_lit 1173))]⟩ (nat_lit 0)), ⟨[]⟩⟩
noncomputable def o721 : Obj := ⟨.none, .none, (.func (fO (st2 (nat_lit 56) (nat_lit 9)) false (u (nat_lit 579226696333050609699002103260049585998164751941)) (nat_lit 0) .none .none .none .none .none .none .none (nat_lit 0))), ⟨[]⟩⟩
noncomputable def o722 : Obj := ⟨(.type "code"), .none, (.fields ⟨[(vs (u (nat_lit 479125093479839352254308)) (nat_lit 1167)), (vs (u (nat_lit 579226696333050609699002103260049585998164751941)) (nat_lit 1168)), (vs (u (nat_lit 9621326145873605890393926034223)) (nat_lit 1169)), (vi (nat_lit 437) (nat_lit 0)), (vi (nat_lit 3) (nat_lit 0)), (vi (nat_lit 0) (nat_lit 0)), (vi (nat_lit 0) (nat_lit 0)), (vi (nat_lit 3) (nat_lit 0)), (.ref (nat_lit 717)), (.bool true), (vi (nat_lit 181) (nat_lit 0)), (.ref (nat_lit 718)), .none, (.ref (nat_lit 719)), (.ref (nat_lit 720)), (.ref (nat_lit 721)), (vi (nat_lit 1174) (nat_lit 0)), (vi (nat_lit 437) (nat_lit 0)), (vs (u (nat_lit 9621326145873605890393926034223)) (nat_lit 1175))]⟩), ⟨[]⟩⟩
noncomputable def o723 : Obj := ⟨(.type "function"), .none, (.func (fO (st2 (nat_lit 56) (nat_lit 9)) false (u (nat_lit 579226696333050609699002103260049585998164751941)) (nat_lit 3) .none .none .none (vs (u (nat_lit 653310468779594700792456556249177723764994172278)) (nat_lit 1027)) .none (.ref (nat_lit 722)) .none (nat_lit 0))), ⟨[]⟩⟩
noncomputable def o726 : Obj := ⟨(.type "tuple"), .none, (.seq ⟨[(vs (u (nat_lit 1718379891)) (nat_lit 1180)), (vs (u (nat_lit 28555869292556912)) (nat_lit 1181))]⟩ (nat_lit 0)), ⟨[]⟩⟩
noncomputable def o728 : Obj := ⟨.none, .none, (.func (fO (st2 (nat_lit 56) (nat_lit 10)) false (u (nat_lit 526439007749671595576218974444156485)) (nat_lit 0) .none .none .none .none .none .none .none (nat_lit 0))), ⟨[]⟩⟩
noncomputable def o729 : Obj := ⟨(.type "code"), .none, (.fields ⟨[(vs (u (nat_lit 435460140902)) (nat_lit 1177)), (vs (u (nat_lit 526439007749671595576218974444156485)) (nat_lit 1178)), (vs (u (nat_lit 9621326145873605890393926034223)) (nat_lit 1179)), (vi (nat_lit 443) (nat_lit 0)), (vi (nat_lit 2) (nat_lit 0)), (vi (nat_lit 0) (nat_lit 0)), (vi (nat_lit 0) (nat_lit 0)), (vi (nat_lit 3) (nat_lit 0)), (.ref (nat_lit 724)), (.bool true), (vi (nat_lit 181) (nat_lit 0)), (.ref (nat_lit 725)), .none, (.ref (nat_lit 726)), (.ref (nat_lit 727)), (.ref (nat_lit 728)), (vi (nat_lit 1182) (nat_lit 0)), (vi (nat_lit 443) (nat_lit 0)), (vs (u (nat_lit 9621326145873605890393926034223)) (nat_lit 1183))]⟩), ⟨[]⟩⟩
noncomputable def o730 : Obj := ⟨(.type "function"), .none, (.func (fO (st2 (nat_lit 56) (nat_lit 10)) false (u (nat_lit 526439007749671595576218974444156485)) (nat_lit 3) .none .none .none (vs (u (nat_lit 653310468779594700792456556249177723764994172278)) (nat_lit 1027)) .none (.ref (nat_lit 729)) .none (nat_lit 0))), ⟨[]⟩⟩
noncomputable def o734 : Obj := ⟨(.type "tuple"), .none, (.seq ⟨[(vs (u (nat_lit 1718379891)) (nat_lit 1188)), (vs (u (nat_lit 1701667182)) (nat_lit 1189)), (vs (u (nat_lit 7761509)) (nat_lit 1190)), (vs (u (nat_lit 1819042147)) (nat_lit 1191)), (vs (u (nat_lit 431349919590)) (nat_lit 1192))]⟩ (nat_lit 0)), ⟨[]⟩⟩
noncomputable def o736 : Obj := ⟨.none, .none, (.func (fO (st2 (nat_lit 56) (nat_lit 11)) false (u (nat_lit 10577590996111626074129623746060281724393076803263100485)) (nat_lit 0) .none .none .none .none .none .none .none (nat_lit 0))), ⟨[]⟩⟩
noncomputable def o737 : Obj := ⟨(.type "code"), .none, (.fields ⟨[(vs (u (nat_lit 8749578199499005030634059884902)) (nat_lit 1185)), (vs (u (nat_lit 10577590996111626074129623746060281724393076803263100485)) (nat_lit 1186)), (vs (u (nat_lit 9621326145873605890393926034223)) (nat_lit 1187)), (vi (nat_lit 457) (nat_lit 0)), (vi (nat_lit 4) (nat_lit 0)), (vi (nat_lit 0) (nat_lit 0)), (vi (nat_lit 0) (nat_lit 0)), (vi (nat_lit 3) (nat_lit 0)), (.ref (nat_lit 732)), (.bool true), (vi (nat_lit 181) (nat_lit 0)), (.ref (nat_lit 733)), .none, (.ref (nat_lit 734)), (.ref (nat_lit 735)), (.ref (nat_lit 736)), (vi (nat_lit 1193) (nat_lit 0)), (vi (nat_lit 457) (nat_lit 0)), (vs (u (nat_lit 9621326145873605890393926034223)) (nat_lit 1194))]⟩), ⟨[]⟩⟩
noncomputable def o738 : Obj := ⟨(.type "function"), .none, (.func (fO (st2 (nat_lit 56) (nat_lit 11)) false (u (nat_lit 10577590996111626074129623746060281724393076803263100485)) (nat_lit 3) (.ref (nat_lit 731)) .none .none (vs (u (nat_lit 653310468779594700792456556249177723764994172278)) (nat_lit 1027)) .none (.ref (nat_lit 737)) .none (nat_lit 0))), ⟨[]⟩⟩
noncomputable def o741 : Obj := ⟨(.type "tuple"), .none, (.seq ⟨[(vs (u (nat_lit 1718379891)) (nat_lit 1199)), (vs (u (nat_lit 1819042147)) (nat_lit 1200)), (vs (u (nat_lit 7761509)) (nat_lit 1201)), (vs (u (nat_lit 1684104552)) (nat_lit 1202)), (vs (u (nat_lit 431349919590)) (nat_lit 1203))]⟩ (nat_lit 0)), ⟨[]⟩⟩
noncomputable def o743 : Obj := ⟨.none, .none, (.func (fO (st2 (nat_lit 56) (nat_lit 12)) false (u (nat_lit 149708993174370372737718466494462646781108224620101)) (nat_lit 0) .none .none .none .none .none .none .none (nat_lit 0))), ⟨[]⟩⟩
noncomputable def o744 : Obj := ⟨(.type "code"), .none, (.fields ⟨[(vs (u (nat_lit 123836376678672724038415718)) (nat_lit 1196)), (vs (u (nat_lit 149708993174370372737718466494462646781108224620101)) (nat_lit 1197)), (vs (u (nat_lit 9621326145873605890393926034223)) (nat_lit 1198)), (vi (nat_lit 470) (nat_lit 0)), (vi (nat_lit 3) (nat_lit 0)), (vi (nat_lit 0) (nat_lit 0)), (vi (nat_lit 0) (nat_lit 0)), (vi (nat_lit 3) (nat_lit 0)), (.ref (nat_lit 739)), (.bool true), (vi (nat_lit 181) (nat_lit 0)), (.ref (nat_lit 740)), .none, (.ref (nat_lit 741)), (.ref (nat_lit 742)), (.ref (nat_lit 743)), (vi (nat_lit 1204) (nat_lit 0)), (vi (nat_lit 470) (nat_lit 0)), (vs (u (nat_lit 9621326145873605890393926034223)) (nat_lit 1205))]⟩), ⟨[]⟩⟩
noncomputable def o745 : Obj := ⟨(.type "function"), .none, (.func (fO (st2 (nat_lit 56) (nat_lit 12)) false (u (nat_lit 149708993174370372737718466494462646781108224620101)) (nat_lit 3) .none .none .none (vs (u (nat_lit 653310468779594700792456556249177723764994172278)) (nat_lit 1027)) .none (.ref (nat_lit 744)) .none (nat_lit 0))), ⟨[]⟩⟩
noncomputable def o748 : Obj := ⟨(.type "tuple"), .none, (.seq ⟨[(vs (u (nat_lit 1718379891)) (nat_lit 1210)), (vs (u (nat_lit 1819042147)) (nat_lit 1211)), (vs (u (nat_lit 7761509)) (nat_lit 1212))]⟩ (nat_lit 0)), ⟨[]⟩⟩
noncomputable def o750 : Obj := ⟨.none, .none, (.func (fO (st2 (nat_lit 56) (nat_lit 13)) false (u (nat_lit 2417921747800566743232639214681029702808860229)) (nat_lit 0) .none .none .none .none .none .none .none (nat_lit 0))), ⟨[]⟩⟩
noncomputable def o751 : Obj := ⟨(.type "code"), .none, (.fields ⟨[(vs (u (nat_lit 2000057992450960094821)) (nat_lit 1207)), (vs (u (nat_lit 2417921747800566743232639214681029702808860229)) (nat_lit 1208)), (vs (u (nat_lit 9621326145873605890393926034223)) (nat_lit 1209)), (vi (nat_lit 481) (nat_lit 0)), (vi (nat_lit 3) (nat_lit 0)), (vi (nat_lit 0) (nat_lit 0)), (vi (nat_lit 0) (nat_lit 0)), (vi (nat_lit 3) (nat_lit 0)), (.ref (nat_lit 746)), (.bool true), (vi (nat_lit 181) (nat_lit 0)), (.ref (nat_lit 747)), .none, (.ref (nat_lit 748)), (.ref (nat_lit 749)), (.ref (nat_lit 750)), (vi (nat_lit 1213) (nat_lit 0)), (vi (nat_lit 481) (nat_lit 0)), (vs (u (nat_lit 9621326145873605890393926034223)) (nat_lit 1214))]⟩), ⟨[]⟩⟩
noncomputable def o752 : Obj := ⟨(.type "function"), .none, (.func (fO (st2 (nat_lit 56) (nat_lit 13)) false (u (nat_lit 2417921747800566743232639214681029702808860229)) (nat_lit 3) .none .none .none (vs (u (nat_lit 653310468779594700792456556249177723764994172278)) (nat_lit 1027)) .none (.ref (nat_lit 751)) .none (nat_lit 0))), ⟨[]⟩⟩
noncomputable def o755 : Obj := ⟨(.type "tuple"), .none, (.seq ⟨[(vs (u (nat_lit 1718379891)) (nat_lit 1219)), (vs (u (nat_lit 1819042147)) (nat_lit 1220)), (vs (u (nat_lit 7761509)) (nat_lit 1221)), (vs (u (nat_lit 102)) (nat_lit 1222)), (vs (u (nat_lit 1885693291)) (nat_lit 1223)), (vs (u (nat_lit 1936159329)) (nat_lit 1224))]⟩ (nat_lit 0)), ⟨[]⟩⟩
noncomputable def o757 : Obj := ⟨.none, .none, (.func (fO (st2 (nat_lit 56) (nat_lit 14)) false (u (nat_lit 618987967436955631459003988134321383220145387077)) (nat_lit 0) .none .none .none .none .none .none .none (nat_lit 0))), ⟨[]⟩⟩
noncomputable def o758 : Obj := ⟨(.type "code"), .none, (.fields ⟨[(vs (u (nat_lit 512014846067454507052144)) (nat_lit 1216)), (vs (u (nat_lit 618987967436955631459003988134321383220145387077)) (nat_lit 1217)), (vs (u (nat_lit 9621326145873605890393926034223)) (nat_lit 1218)), (vi (nat_lit 484) (nat_lit 0)), (vi (nat_lit 3) (nat_lit 0)), (vi (nat_lit 0) (nat_lit 0)), (vi (nat_lit 0) (nat_lit 0)), (vi (nat_lit 3) (nat_lit 0)), (.ref (nat_lit 753)), (.bool true), (vi (nat_lit 181) (nat_lit 0)), (.ref (nat_lit 754)), .none, (.ref (nat_lit 755)), (.ref (nat_lit 756)), (.ref (nat_lit 757)), (vi (nat_lit 1225) (nat_lit 0)), (vi (nat_lit 484) (nat_lit 0)), (vs (u (nat_lit 9621326145873605890393926034223)) (nat_lit 1226))]⟩), ⟨[]⟩⟩
noncomputable def o759 : Obj := ⟨(.type "function"), .none, (.func (fO (st2 (nat_lit 56) (nat_lit 14)) false (u (nat_lit 618987967436955631459003988134321383220145387077)) (nat_lit 3) .none .none .none (vs (u (nat_lit 653310468779594700792456556249177723764994172278)) (nat_lit 1027)) .none (.ref (nat_lit 758)) .none (nat_lit 0))), ⟨[]⟩⟩
noncomputable def o762 : Obj := ⟨(.type "tuple"), .none, (.seq ⟨[(vs (u (nat_lit 1718379891)) (nat_lit 1231)), (vs (u (nat_lit 7761509)) (nat_lit 1232)), (vs (u (nat_lit 1937010532)) (nat_lit 1233))]⟩ (nat_lit 0)), ⟨[]⟩⟩
noncomputable def o764 : Obj := ⟨.none, .none, (.func (fO (st2 (nat_lit 56) (nat_lit 15)) false (u (nat_lit 168737415348875284420881281136260174917284854330949)) (nat_lit 0) .none .none .none .none .none .none .none (nat_lit 0))), ⟨[]⟩⟩
noncomputable def o765 : Obj := ⟨(.type "code"), .none, (.fields ⟨[(vs (u (nat_lit 139576318588897311753138291)) (nat_lit 1228)), (vs (u (nat_lit 168737415348875284420881281136260174917284854330949)) (nat_lit 1229)), (vs (u (nat_lit 9621326145873605890393926034223)) (nat_lit 1230)), (vi (nat_lit 497) (nat_lit 0)), (vi (nat_lit 2) (nat_lit 0)), (vi (nat_lit 0) (nat_lit 0)), (vi (nat_lit 0) (nat_lit 0)), (vi (nat_lit 3) (nat_lit 0)), (.ref (nat_lit 760)), (.bool true), (vi (nat_lit 181) (nat_lit 0)), (.ref (nat_lit 761)), .none, (.ref (nat_lit 762)), (.ref (nat_lit 763)), (.ref (nat_lit 764)), (vi (nat_lit 1234) (nat_lit 0)), (vi (nat_lit 497) (nat_lit 0)), (vs (u (nat_lit 9621326145873605890393926034223)) (nat_lit 1235))]⟩), ⟨[]⟩⟩
noncomputable def o766 : Obj := ⟨(.type "function"), .none, (.func (fO (st2 (nat_lit 56) (nat_lit 15)) false (u (nat_lit 168737415348875284420881281136260174917284854330949)) (nat_lit 3) .none .none .none (vs (u (nat_lit 653310468779594700792456556249177723764994172278)) (nat_lit 1027)) .none (.ref (nat_lit 765)) .none (nat_lit 0))), ⟨[]⟩⟩
noncomputable def o769 : Obj := ⟨(.type "tuple"), .none, (.seq ⟨[(vs (u (nat_lit 1718379891)) (nat_lit 1240)), (vs (u (nat_lit 495756604521)) (nat_lit 1241)), (vs (u (nat_lit 1936154996)) (nat_lit 1242)), (vs (u (nat_lit 7761509)) (nat_lit 1243)), (vs (u (nat_lit 1936159329)) (nat_lit 1244)), (vs (u (nat_lit 435459026032)) (nat_lit 1245)), (vs (u (nat_lit 1835365481)) (nat_lit 1246))]⟩ (nat_lit 0)), ⟨[]⟩⟩
noncomputable def o771 : Obj := ⟨.none, .none, (.func (fO (st2 (nat_lit 56) (nat_lit 16)) false (u (nat_lit 43177795868097212178874204337772513554020765024745029)) (nat_lit 0) .none .none .none .none .none .none .none (nat_lit 0))), ⟨[]⟩⟩
noncomputable def o772 : Obj := ⟨(.type "code"), .none, (.fields ⟨[(vs (u (nat_lit 35715835634862239300621136496)) (nat_lit 1237)), (vs (u (nat_lit 43177795868097212178874204337772513554020765024745029)) (nat_lit 1238)), (vs (u (nat_lit 9621326145873605890393926034223)) (nat_lit 1239)), (vi (nat_lit 503) (nat_lit 0)), (vi (nat_lit 4) (nat_lit 0)), (vi (nat_lit 0) (nat_lit 0)), (vi (nat_lit 0) (nat_lit 0)), (vi (nat_lit 3) (nat_lit 0)), (.ref (nat_lit 767)), (.bool true), (vi (nat_lit 181) (nat_lit 0)), (.ref (nat_lit 768)), .none, (.ref (nat_lit 769)), (.ref (nat_lit 770)), (.ref (nat_lit 771)), (vi (nat_lit 1247) (nat_lit 0)), (vi (nat_lit 503) (nat_lit 0)), (vs (u (nat_lit 9621326145873605890393926034223)) (nat_lit 1248))]⟩), ⟨[]⟩⟩
noncomputable def o773 : Obj := ⟨(.type "function"), .none, (.func (fO (st2 (nat_lit 56) (nat_lit 16)) false (u (nat_lit 43177795868097212178874204337772513554020765024745029)) (nat_lit 3) .none .none .none (vs (u (nat_lit 653310468779594700792456556249177723764994172278)) (nat_lit 1027)) .none (.ref (nat_lit 772)) .none (nat_lit 0))), ⟨[]⟩⟩
noncomputable def o774 : Obj := ⟨(.type "tuple"), .none, (.seq ⟨[(.bool false), .none]⟩ (nat_lit 0)), ⟨[]⟩⟩
noncomputable def o777 : Obj := ⟨(.type "tuple"), .none, (.seq ⟨[(vs (u (nat_lit 1718379891)) (nat_lit 1253)), (vs (u (nat_lit 495756604521)) (nat_lit 1254)), (vs (u (nat_lit 1936154996)) (nat_lit 1255)), (vs (u (nat_lit 7761509)) (nat_lit 1256)), (vs (u (nat_lit 1885693291)) (nat_lit 1257)), (vs (u (nat_lit 1819042147)) (nat_lit 1258)), (vs (u (nat_lit 1936159329)) (nat_lit 1259)), (vs (u (nat_lit 435459026032)) (nat_lit 1260)), (vs (u (nat_lit 1835365481)) (nat_lit 1261)), (vs (u (nat_lit 6775156)) (nat_lit 1262)), (vs (u (nat_lit 435761734006)) (nat_lit 1263))]⟩ (nat_lit 0)), ⟨[]⟩⟩
noncomputable def o779 : Obj := ⟨.none, .none, (.func (fO (st2 (nat_lit 56) (nat_lit 17)) false (u (nat_lit 658840879335046649624991448864454228503733302853)) (nat_lit 0) .none .none .none .none .none .none .none (nat_lit 0))), ⟨[]⟩⟩
noncomputable def o780 : Obj := ⟨(.type "code"), .none, (.fields ⟨[(vs (u (nat_lit 544980402143339280294245)) (nat_lit 1250)), (vs (u (nat_lit 658840879335046649624991448864454228503733302853)) (nat_lit 1251)), (vs (u (nat_lit 9621326145873605890393926034223)) (nat_lit 1252)), (vi (nat_lit 515) (nat_lit 0)), (vi (nat_lit 6) (nat_lit 0)), (vi (nat_lit 0) (nat_lit 0)), (vi (nat_lit 0) (nat_lit 0)), (vi (nat_lit 3) (nat_lit 0)), (.ref (nat_lit 775)), (.bool true), (vi (nat_lit 181) (nat_lit 0)), (.ref (nat_lit 776)), .none, (.ref (nat_lit 777)), (.ref (nat_lit 778)), (.ref (nat_lit 779)), (vi (nat_lit 1264) (nat_lit 0)), (vi (nat_lit 515) (nat_lit 0)), (vs (u (nat_lit 9621326145873605890393926034223)) (nat_lit 1265))]⟩), ⟨[]⟩⟩
noncomputable def o781 : Obj := ⟨(.type "function"), .none, (.func (fO (st2 (nat_lit 56) (nat_lit 17)) false (u (nat_lit 658840879335046649624991448864454228503733302853)) (nat_lit 3) (.ref (nat_lit 774)) .none .none (vs (u (nat_lit 653310468779594700792456556249177723764994172278)) (nat_lit 1027)) .none (.ref (nat_lit 780)) .none (nat_lit 0))), ⟨[]⟩⟩
noncomputable def o784 : Obj := ⟨(.type "tuple"), .none, (.seq ⟨[(vs (u (nat_lit 1718379891)) (nat_lit 1270)), (vs (u (nat_lit 1835365481)) (nat_lit 1271)), (vs (u (nat_lit 1885693291)) (nat_lit 1272)), (vs (u (nat_lit 435459026032)) (nat_lit 1273)), (vs (u (nat_lit 1819042147)) (nat_lit 1274)), (vs (u (nat_lit 1684828020)) (nat_lit 1275))]⟩ (nat_lit 0)), ⟨[]⟩⟩
noncomputable def o786 : Obj := ⟨.none, .none, (.func (fO (st2 (nat_lit 56) (nat_lit 18)) false (u (nat_lit 2306940690341755369100984232377717617336612421)) (nat_lit 0) .none .none .none .none .none .none .none (nat_lit 0))), ⟨[]⟩⟩
noncomputable def o787 : Obj := ⟨(.type "code"), .none, (.fields ⟨[(vs (u (nat_lit 1908256613360397741413)) (nat_lit 1267)), (vs (u (nat_lit 2306940690341755369100984232377717617336612421)) (nat_lit 1268)), (vs (u (nat_lit 9621326145873605890393926034223)) (nat_lit 1269)), (vi (nat_lit 533) (nat_lit 0)), (vi (nat_lit 5) (nat_lit 0)), (vi (nat_lit 0) (nat_lit 0)), (vi (nat_lit 0) (nat_lit 0)), (vi (nat_lit 3) (nat_lit 0)), (.ref (nat_lit 782)), (.bool true), (vi (nat_lit 181) (nat_lit 0)), (.ref (nat_lit 783)), .none, (.ref (nat_lit 784)), (.ref (nat_lit 785)), (.ref (nat_lit 786)), (vi (nat_lit 1276) (nat_lit 0)), (vi (nat_lit 533) (nat_lit 0)), (vs (u (nat_lit 9621326145873605890393926034223)) (nat_lit 1277))]⟩), ⟨[]⟩⟩
noncomputable def o788 : Obj := ⟨(.type "function"), .none, (.func (fO (st2 (nat_lit 56) (nat_lit 18)) false (u (nat_lit 2306940690341755369100984232377717617336612421)) (nat_lit 3) .none .none .none (vs (u (nat_lit 653310468779594700792456556249177723764994172278)) (nat_lit 1027)) .none (.ref (nat_lit 787)) .none (nat_lit 0))), ⟨[]⟩⟩
noncomputable def o791 : Obj := ⟨(.type "tuple"), .none, (.seq ⟨[(vs (u (nat_lit 1718379891)) (nat_lit 1282)), (vs (u (nat_lit 102)) (nat_lit 1283)), (vs (u (nat_lit 1819042147)) (nat_lit 1284)), (vs (u (nat_lit 7761509)) (nat_lit 1285)), (vs (u (nat_lit 431198986611)) (nat_lit 1286)), (vs (u (nat_lit 30506446003529074)) (nat_lit 1287)), (vs (u (nat_lit 28542640894207341)) (nat_lit 1288))]⟩ (nat_lit 0)), ⟨[]⟩⟩
noncomputable def o793 : Obj := ⟨.none, .none, (.func (fO (st2 (nat_lit 56) (nat_lit 19)) false (u (nat_lit 40549964588387218484132705039902340199250118200882757)) (nat_lit 0) .none .none .none .none .none .none .none (nat_lit 0))), ⟨[]⟩⟩
noncomputable def o794 : Obj := ⟨(.type "code"), .none, (.fields ⟨[(vs (u (nat_lit 33542144547225720111116345699)) (nat_lit 1279)), (vs (u (nat_lit 40549964588387218484132705039902340199250118200882757)) (nat_lit 1280)), (vs (u (nat_lit 9621326145873605890393926034223)) (nat_lit 1281)), (vi (nat_lit 539) (nat_lit 0)), (vi (nat_lit 4) (nat_lit 0)), (vi (nat_lit 0) (nat_lit 0)), (vi (nat_lit 0) (nat_lit 0)), (vi (nat_lit 3) (nat_lit 0)), (.ref (nat_lit 789)), (.bool true), (vi (nat_lit 181) (nat_lit 0)), (.ref (nat_lit 790)), .none, (.ref (nat_lit 791)), (.ref (nat_lit 792)), (.ref (nat_lit 793)), (vi (nat_lit 1289) (nat_lit 0)), (vi (nat_lit 539) (nat_lit 0)), (vs (u (nat_lit 9621326145873605890393926034223)) (nat_lit 1290))]⟩), ⟨[]⟩⟩
noncomputable def o795 : Obj := ⟨(.type "function"), .none, (.func (fO (st2 (nat_lit 56) (nat_lit 19)) false (u (nat_lit 40549964588387218484132705039902340199250118200882757)) (nat_lit 3) .none .none .none (vs (u (nat_lit 653310468779594700792456556249177723764994172278)) (nat_lit 1027)) .none (.ref (nat_lit 794)) .none (nat_lit 0))), ⟨[]⟩⟩
noncomputable def o798 : Obj := ⟨(.type "tuple"), .none, (.seq ⟨[(vs (u (nat_lit 1718379891)) (nat_lit 1295)), (vs (u (nat_lit 31078196194145634)) (nat_lit 1296)), (vs (u (nat_lit 1819042147)) (nat_lit 1297)), (vs (u (nat_lit 1936159329)) (nat_lit 1298)), (vs (u (nat_lit 7761509)) (nat_lit 1299)), (vs (u (nat_lit 431198986611)) (nat_lit 1300)), (vs (u (nat_lit 431349919590)) (nat_lit 1301)), (vs (u (nat_lit 435761734006)) (nat_lit 1302)), (vs (u (nat_lit 30506446003529074)) (nat_lit 1303)), (vs (u (nat_lit 28542640894207341)) (nat_lit 1304))]⟩ (nat_lit 0)), ⟨[]⟩⟩
noncomputable def o800 : Obj := ⟨.none, .none, (.func (fO (st2 (nat_lit 56) (nat_lit 20)) false (u (nat_lit 41310008439754601809294713326652900707419722241635909)) (nat_lit 0) .none .none .none .none .none .none .none (nat_lit 0))), ⟨[]⟩⟩
noncomputable def o801 : Obj := ⟨(.type "code"), .none, (.fields ⟨[(vs (u (nat_lit 34170838085766954570784465251)) (nat_lit 1292)), (vs (u (nat_lit 41310008439754601809294713326652900707419722241635909)) (nat_lit 1293)), (vs (u (nat_lit 9621326145873605890393926034223)) (nat_lit 1294)), (vi (nat_lit 551) (nat_lit 0)), (vi (nat_lit 5) (nat_lit 0)), (vi (nat_lit 0) (nat_lit 0)), (vi (nat_lit 0) (nat_lit 0)), (vi (nat_lit 3) (nat_lit 0)), (.ref (nat_lit 796)), (.bool true), (vi (nat_lit 181) (nat_lit 0)), (.ref (nat_lit 797)), .none, (.ref (nat_lit 798)), (.ref (nat_lit 799)), (.ref (nat_lit 800)), (vi (nat_lit 1305) (nat_lit 0)), (vi (nat_lit 551) (nat_lit 0)), (vs (u (nat_lit 9621326145873605890393926034223)) (nat_lit 1306))]⟩), ⟨[]⟩⟩
noncomputable def o802 : Obj := ⟨(.type "function"), .none, (.func (fO (st2 (nat_lit 56) (nat_lit 20)) false (u (nat_lit 41310008439754601809294713326652900707419722241635909)) (nat_lit 3) .none .none .none (vs (u (nat_lit 653310468779594700792456556249177723764994172278)) (nat_lit 1027)) .none (.ref (nat_lit 801)) .none (nat_lit 0))), ⟨[]⟩⟩
noncomputable def o806 : Obj := ⟨(.type "tuple"), .none, (.seq ⟨[(vs (u (nat_lit 1718379891)) (nat_lit 1311)), (vs (u (nat_lit 28554821421198435)) (nat_lit 1312)), (vs (u (nat_lit 1936159329)) (nat_lit 1313)), (vs (u (nat_lit 1819042147)) (nat_lit 1314)), (vs (u (nat_lit 125779936305507)) (nat_lit 1315)), (vs (u (nat_lit 7521983764486121828)) (nat_lit 1316)), (vs (u (nat_lit 7761509)) (nat_lit 1317)), (vs (u (nat_lit 28542640894207341)) (nat_lit 1318)), (vs (u (nat_lit 30506446003529074)) (nat_lit 1319)), (vs (u (nat_lit 435626799718)) (nat_lit 1320)), (vs (u (nat_lit 435761734006)) (nat_lit 1321)), (vs (u (nat_lit 1953722220)) (nat_lit 1322)), (vs (u (nat_lit 119165719898483)) (nat_lit 1323))]⟩ (nat_lit 0)), ⟨[]⟩⟩
noncomputable def o808 : Obj := ⟨.none, .none, (.func (fO (st2 (nat_lit 56) (nat_lit 21)) false (u (nat_lit 9716702220210119508313878441258399751853281212702488133)) (nat_lit 0) .none .none .none .none .none .none .none (nat_lit 0))), ⟨[]⟩⟩
noncomputable def o809 : Obj := ⟨(.type "code"), .none, (.fields ⟨[(vs (u (nat_lit 8037467694508770659740870013025)) (nat_lit 1308)), (vs (u (nat_lit 9716702220210119508313878441258399751853281212702488133)) (nat_lit 1309)), (vs (u (nat_lit 9621326145873605890393926034223)) (nat_lit 1310)), (vi (nat_lit 569) (nat_lit 0)), (vi (nat_lit 6) (nat_lit 0)), (vi (nat_lit 0) (nat_lit 0)), (vi (nat_lit 0) (nat_lit 0)), (vi (nat_lit 3) (nat_lit 0)), (.ref (nat_lit 804)), (.bool true), (vi (nat_lit 181) (nat_lit 0)), (.ref (nat_lit 805)), .none, (.ref (nat_lit 806)), (.ref (nat_lit 807)), (.ref (nat_lit 808)), (vi (nat_lit 1324) (nat_lit 0)), (vi (nat_lit 569) (nat_lit 0)), (vs (u (nat_lit 9621326145873605890393926034223)) (nat_lit 1325))]⟩), ⟨[]⟩⟩
noncomputable def o810 : Obj := ⟨(.type "function"), .none, (.func (fO (st2 (nat_lit 56) (nat_lit 21)) false (u (nat_lit 9716702220210119508313878441258399751853281212702488133)) (nat_lit 3) (.ref (nat_lit 803)) .none .none (vs (u (nat_lit 653310468779594700792456556249177723764994172278)) (nat_lit 1027)) .none (.ref (nat_lit 809)) .none (nat_lit 0))), ⟨[]⟩⟩
noncomputable def o813 : Obj := ⟨(.type "tuple"), .none, (.seq ⟨[(vs (u (nat_lit 1718379891)) (nat_lit 1330)), (vs (u (nat_lit 435626799718)) (nat_lit 1331)), (vs (u (nat_lit 435761734006)) (nat_lit 1332)), (vs (u (nat_lit 28548142579542390)) (nat_lit 1333)), (vs (u (nat_lit 1953722220)) (nat_lit 1334)), (vs (u (nat_lit 119165719898483)) (nat_lit 1335))]⟩ (nat_lit 0)), ⟨[]⟩⟩
noncomputable def o815 : Obj := ⟨.none, .none, (.func (fO (st2 (nat_lit 56) (nat_lit 22)) false (u (nat_lit 526823023565781691524771969771861573)) (nat_lit 0) .none .none .none .none .none .none .none (nat_lit 0))), ⟨[]⟩⟩
noncomputable def o816 : Obj := ⟨(.type "code"), .none, (.fields ⟨[(vs (u (nat_lit 435777791340)) (nat_lit 1327)), (vs (u (nat_lit 526823023565781691524771969771861573)) (nat_lit 1328)), (vs (u (nat_lit 9621326145873605890393926034223)) (nat_lit 1329)), (vi (nat_lit 603) (nat_lit 0)), (vi (nat_lit 3) (nat_lit 0)), (vi (nat_lit 0) (nat_lit 0)), (vi (nat_lit 0) (nat_lit 0)), (vi (nat_lit 3) (nat_lit 0)), (.ref (nat_lit 811)), (.bool true), (vi (nat_lit 181) (nat_lit 0)), (.ref (nat_lit 812)), .none, (.ref (nat_lit 813)), (.ref (nat_lit 814)), (.ref (nat_lit 815)), (vi (nat_lit 1336) (nat_lit 0)), (vi (nat_lit 603) (nat_lit 0)), (vs (u (nat_lit 9621326145873605890393926034223)) (nat_lit 1337))]⟩), ⟨[]⟩⟩
noncomputable def o817 : Obj := ⟨(.type "function"), .none, (.func (fO (st2 (nat_lit 56) (nat_lit 22)) false (u (nat_lit 526823023565781691524771969771861573)) (nat_lit 3) .none .none .none (vs (u (nat_lit 653310468779594700792456556249177723764994172278)) (nat_lit 1027)) .none (.ref (nat_lit 816)) .none (nat_lit 0))), ⟨[]⟩⟩
noncomputable def o820 : Obj := ⟨(.type "tuple"), .none, (.seq ⟨[(vs (u (nat_lit 1718379891)) (nat_lit 1342)), (vs (u (nat_lit 435626799718)) (nat_lit 1343)), (vs (u (nat_lit 110386773320038)) (nat_lit 1344)), (vs (u (nat_lit 500153084262)) (nat_lit 1345)), (vs (u (nat_lit 500035838310)) (nat_lit 1346))]⟩ (nat_lit 0)), ⟨[]⟩⟩
noncomputable def o822 : Obj := ⟨.none, .none, (.func (fO (st2 (nat_lit 56) (nat_lit 23)) false (u (nat_lit 2574726612681349605686208477088101705007068741)) (nat_lit 0) .none .none .none .none .none .none .none (nat_lit 0))), ⟨[]⟩⟩
noncomputable def o823 : Obj := ⟨(.type "code"), .none, (.fields ⟨[(vs (u (nat_lit 2129763936634340799858)) (nat_lit 1339)), (vs (u (nat_lit 2574726612681349605686208477088101705007068741)) (nat_lit 1340)), (vs (u (nat_lit 9621326145873605890393926034223)) (nat_lit 1341)), (vi (nat_lit 623) (nat_lit 0)), (vi (nat_lit 2) (nat_lit 0)), (vi (nat_lit 0) (nat_lit 0)), (vi (nat_lit 0) (nat_lit 0)), (vi (nat_lit 3) (nat_lit 0)), (.ref (nat_lit 818)), (.bool true), (vi (nat_lit 181) (nat_lit 0)), (.ref (nat_lit 819)), .none, (.ref (nat_lit 820)), (.ref (nat_lit 821)), (.ref (nat_lit 822)), (vi (nat_lit 1347) (nat_lit 0)), (vi (nat_lit 623) (nat_lit 0)), (vs (u (nat_lit 9621326145873605890393926034223)) (nat_lit 1348))]⟩), ⟨[]⟩⟩
noncomputable def o824 : Obj := ⟨(.type "function"), .none, (.func (fO (st2 (nat_lit 56) (nat_lit 23)) false (u (nat_lit 2574726612681349605686208477088101705007068741)) (nat_lit 3) .none .none .none (vs (u (nat_lit 653310468779594700792456556249177723764994172278)) (nat_lit 1027)) .none (.ref (nat_lit 823)) .none (nat_lit 0))), ⟨[]⟩⟩
noncomputable def o827 : Obj := ⟨(.type "tuple"), .none, (.seq ⟨[(vs (u (nat_lit 1718379891)) (nat_lit 1353)), (vs (u (nat_lit 2003789939)) (nat_lit 1354))]⟩ (nat_lit 0)), ⟨[]⟩⟩
noncomputable def o828 : Obj := ⟨(.type "tuple"), .none, (.seq ⟨[(vs (u (nat_lit 8243121628069782884)) (nat_lit 1355))]⟩ (nat_lit 0)), ⟨[]⟩⟩
noncomputable def o829 : Obj := ⟨.none, .none, (.func (fO (st2 (nat_lit 56) (nat_lit 24)) false (u (nat_lit 152058835935586987564131264708995020357)) (nat_lit 0) .none .none .none .none .none .none .none (nat_lit 0))), ⟨[]⟩⟩
noncomputable def o830 : Obj := ⟨(.type "code"), .none, (.fields ⟨[(vs (u (nat_lit 125780121053299)) (nat_lit 1350)), (vs (u (nat_lit 152058835935586987564131264708995020357)) (nat_lit 1351)), (vs (u (nat_lit 9621326145873605890393926034223)) (nat_lit 1352)), (vi (nat_lit 634) (nat_lit 0)), (vi (nat_lit 1) (nat_lit 0)), (vi (nat_lit 0) (nat_lit 0)), (vi (nat_lit 0) (nat_lit 0)), (vi (nat_lit 3) (nat_lit 0)), (.ref (nat_lit 825)), (.bool true), (vi (nat_lit 181) (nat_lit 0)), (.ref (nat_lit 826)), .none, (.ref (nat_lit 827)), (.ref (nat_lit 828)), (.ref (nat_lit 829)), (vi (nat_lit 1356) (nat_lit 0)), (vi (nat_lit 634) (nat_lit 0)), (vs (u (nat_lit 9621326145873605890393926034223)) (nat_lit 1357))]⟩), ⟨[]⟩⟩
noncomputable def o831 : Obj := ⟨(.type "function"), .none, (.func (fO (st2 (nat_lit 56) (nat_lit 24)) false (u (nat_lit 152058835935586987564131264708995020357)) (nat_lit 3) .none .none .none (vs (u (nat_lit 653310468779594700792456556249177723764994172278)) (nat_lit 1027)) .none (.ref (nat_lit 830)) .none (nat_lit 0))), ⟨[]⟩⟩
noncomputable def o835 : Obj := ⟨(.type "tuple"), .none, (.seq ⟨[(vs (u (nat_lit 1718379891)) (nat_lit 1362)), (vs (u (nat_lit 102)) (nat_lit 1363)), (vs (u (nat_lit 1936159329)) (nat_lit 1364)), (vs (u (nat_lit 7761509)) (nat_lit 1365)), (vs (u (nat_lit 1819042147)) (nat_lit 1366))]⟩ (nat_lit 0)), ⟨[]⟩⟩
noncomputable def o837 : Obj := ⟨.none, .none, (.func (fO (st2 (nat_lit 56) (nat_lit 25)) false (u (nat_lit 579226696333050467083975578520923472027732506181)) (nat_lit 0) .none .none .none .none .none .none .none (nat_lit 0))), ⟨[]⟩⟩
noncomputable def o838 : Obj := ⟨(.type "code"), .none, (.fields ⟨[(vs (u (nat_lit 479125093479839234285923)) (nat_lit 1359)), (vs (u (nat_lit 579226696333050467083975578520923472027732506181)) (nat_lit 1360)), (vs (u (nat_lit 9621326145873605890393926034223)) (nat_lit 1361)), (vi (nat_lit 645) (nat_lit 0)), (vi (nat_lit 5) (nat_lit 0)), (vi (nat_lit 0) (nat_lit 0)), (vi (nat_lit 0) (nat_lit 0)), (vi (nat_lit 3) (nat_lit 0)), (.ref (nat_lit 833)), (.bool true), (vi (nat_lit 181) (nat_lit 0)), (.ref (nat_lit 834)), .none, (.ref (nat_lit 835)), (.ref (nat_lit 836)), (.ref (nat_lit 837)), (vi (nat_lit 1367) (nat_lit 0)), (vi (nat_lit 645) (nat_lit 0)), (vs (u (nat_lit 9621326145873605890393926034223)) (nat_lit 1368))]⟩), ⟨[]⟩⟩
noncomputable def o839 : Obj := ⟨(.type "function"), .none, (.func (fO (st2 (nat_lit 56) (nat_lit 25)) false (u (nat_lit 579226696333050467083975578520923472027732506181)) (nat_lit 3) (.ref (nat_lit 832)) .none .none (vs (u (nat_lit 653310468779594700792456556249177723764994172278)) (nat_lit 1027)) .none (.ref (nat_lit 838)) .none (nat_lit 0))), ⟨[]⟩⟩
noncomputable def o842 : Obj := ⟨(.type "tuple"), .none, (.seq ⟨[(vs (u (nat_lit 1718379891)) (nat_lit 1373)), (vs (u (nat_lit 30787916450984560)) (nat_lit 1374)), (vs (u (nat_lit 435761734006)) (nat_lit 1375)), (vs (u (nat_lit 101)) (nat_lit 1376))]⟩ (nat_lit 0)), ⟨[]⟩⟩
noncomputable def o844 : Obj := ⟨.none, .none, (.func (fO (st2 (nat_lit 56) (nat_lit 26)) false (u (nat_lit 8751445659601428763655584970309)) (nat_lit 0) .none .none .none .none .none .none .none (nat_lit 0))), ⟨[]⟩⟩
noncomputable def o845 : Obj := ⟨(.type "code"), .none, (.fields ⟨[(vs (u (nat_lit 7239026)) (nat_lit 1370)), (vs (u (nat_lit 8751445659601428763655584970309)) (nat_lit 1371)), (vs (u (nat_lit 9621326145873605890393926034223)) (nat_lit 1372)), (vi (nat_lit 648) (nat_lit 0)), (vi (nat_lit 2) (nat_lit 0)), (vi (nat_lit 0) (nat_lit 0)), (vi (nat_lit 0) (nat_lit 0)), (vi (nat_lit 3) (nat_lit 0)), (.ref (nat_lit 840)), (.bool true), (vi (nat_lit 181) (nat_lit 0)), (.ref (nat_lit 841)), .none, (.ref (nat_lit 842)), (.ref (nat_lit 843)), (.ref (nat_lit 844)), (vi (nat_lit 1377) (nat_lit 0)), (vi (nat_lit 648) (nat_lit 0)), (vs (u (nat_lit 9621326145873605890393926034223)) (nat_lit 1378))]⟩), ⟨[]⟩⟩
noncomputable def o846 : Obj := ⟨(.type "function"), .none, (.func (fO (st2 (nat_lit 56) (nat_lit 26)) false (u (nat_lit 8751445659601428763655584970309)) (nat_lit 3) .none .none .none (vs (u (nat_lit 653310468779594700792456556249177723764994172278)) (nat_lit 1027)) .none (.ref (nat_lit 845)) .none (nat_lit 0))), ⟨[]⟩⟩
noncomputable def o847 : Obj := ⟨(.type "tuple"), .none, (.seq ⟨[(vs (u (nat_lit 1702060386)) (nat_lit 1380)), (vs (u (nat_lit 32772479289292131)) (nat_lit 1381)), (vs (u (nat_lit 8243121628069782884)) (nat_lit 1382)), (vs (u (nat_lit 540220422182348705196388)) (nat_lit 1383)), (vs (u (nat_lit 126879463993958)) (nat_lit 1384)), (vs (u (nat_lit 32488787840822375)) (nat_lit 1385)), (vs (u (nat_lit 8318822977922556264)) (nat_lit 1386)), (vs (u (nat_lit 499984984428)) (nat_lit 1387)), (vs (u (nat_lit 139505445987343552784592749)) (nat_lit 1388)), (vs (u (nat_lit 138296318119088462283433326)) (nat_lit 1389)), (vs (u (nat_lit 7632239)) (nat_lit 1390)), (vs (u (nat_lit 8319400174551262578)) (nat_lit 1391)), (vs (u (nat_lit 13427)) (nat_lit 1392)), (vs (u (nat_lit 2110237159863924255091)) (nat_lit 1393)), (vs (u (nat_lit 495806936179)) (nat_lit 1394)), (vs (u (nat_lit 32497601197793652)) (nat_lit 1395)), (vs (u (nat_lit 28548142579542390)) (nat_lit 1396)), (vs (u (nat_lit 125779970253175)) (nat_lit 1397)), (vs (u (nat_lit 8315736636066521463)) (nat_lit 1398))]⟩ (nat_lit 0)), ⟨[]⟩⟩
noncomputable def o848 (P : Params) : Obj := ⟨(.type "dict"), .none, (.dict ⟨[en P (u (nat_lit 450384564904988244795231)) (nat_lit 1075) (vs (u (nat_lit 653310468779594700792456556249177723764994172278)) (nat_lit 1027)), en P (u (nat_lit 495203858965168609907421719000670047)) (nat_lit 1079) (vi (nat_lit 349) (nat_lit 1078)), en P (u (nat_lit 6872339552563453791)) (nat_lit 1090) (.ref (nat_lit 658)), en P (u (nat_lit 33335428924269934)) (nat_lit 1099) (.ref (nat_lit 665)), en P (u (nat_lit 111524889126244)) (nat_lit 1111) (.ref (nat_lit 673)), en P (u (nat_lit 1801677172)) (nat_lit 1118) (.ref (nat_lit 680)), en P (u (nat_lit 35416022345623109501798803827)) (nat_lit 1127) (.ref (nat_lit 687)), en P (u (nat_lit 7812726516083745143)) (nat_lit 1138) (.ref (nat_lit 695)), en P (u (nat_lit 33555404951874733781283665266)) (nat_lit 1145) (.ref (nat_lit 702)), en P (u (nat_lit 1818326629)) (nat_lit 1155) (.ref (nat_lit 709)), en P (u (nat_lit 7308324465835925878)) (nat_lit 1166) (.ref (nat_lit 716)), en P (u (nat_lit 479125093479839352254308)) (nat_lit 1176) (.ref (nat_lit 723)), en P (u (nat_lit 435460140902)) (nat_lit 1184) (.ref (nat_lit 730)), en P (u (nat_lit 8749578199499005030634059884902)) (nat_lit 1195) (.ref (nat_lit 738)), en P (u (nat_lit 123836376678672724038415718)) (nat_lit 1206) (.ref (nat_lit 745)), en P (u (nat_lit 2000057992450960094821)) (nat_lit 1215) (.ref (nat_lit 752)), en P (u (nat_lit 512014846067454507052144)) (nat_lit 1227) (.ref (nat_lit 759)), en P (u (nat_lit 139576318588897311753138291)) (nat_lit 1236) (.ref (nat_lit 766)), en P (u (nat_lit 35715835634862239300621136496)) (nat_lit 1249) (.ref (nat_lit 773)), en P (u (nat_lit 544980402143339280294245)) (nat_lit 1266) (.ref (nat_lit 781)), en P (u (nat_lit 1908256613360397741413)) (nat_lit 1278) (.ref (nat_lit 788)), en P (u (nat_lit 33542144547225720111116345699)) (nat_lit 1291) (.ref (nat_lit 795)), en P (u (nat_lit 34170838085766954570784465251)) (nat_lit 1307) (.ref (nat_lit 802)), en P (u (nat_lit 8037467694508770659740870013025)) (nat_lit 1326) (.ref (nat_lit 810)), en P (u (nat_lit 435777791340)) (nat_lit 1338) (.ref (nat_lit 817)), en P (u (nat_lit 2129763936634340799858)) (nat_lit 1349) (.ref (nat_lit 824)), en P (u (nat_lit 125780121053299)) (nat_lit 1358) (.ref (nat_lit 831)), en P (u (nat_lit 479125093479839234285923)) (nat_lit 1369) (.ref (nat_lit 839)), en P (u (nat_lit 7239026)) (nat_lit 1379) (.ref (nat_lit 846)), en P (u (nat_lit 139387583093331537335747288891456728448373227741023)) (nat_lit 1399) (.ref (nat_lit 847)), en P (u (nat_lit 6872339526709436255)) (nat_lit 1401) (.ref (nat_lit 850)), en P (u (nat_lit 115298466557181117500710751)) (nat_lit 1403) (.ref (nat_lit 851)), en P (u (nat_lit 26845003462762335)) (nat_lit 1404) .none]⟩ (nat_lit 4)), ⟨[]⟩⟩
noncomputable def o849 : Obj := ⟨(.type "type"), .none, (.cls ⟨(u (nat_lit 2110959975595354715717)), [(.type "object")], [(.ref (nat_lit 849)), (.type "object")], (nat_lit 848), (u (nat_lit 2110959975595354715717)), true, [], [], false, .none, false⟩), ⟨[.none, .none, (.some (vs (u (nat_lit 2110959975595354715717)) (nat_lit 1068))), (.some (vs (u (nat_lit 2110959975595354715717)) (nat_lit 1076))), (.some (.builtin "object.__new__")), (.some (.bool true))]⟩⟩
noncomputable def o850 : Obj := ⟨(.type "getset_descriptor"), .none, (.fields ⟨[(vs (u (nat_lit 6872339526709436255)) (nat_lit 1400)), (.ref (nat_lit 849)), (.builtin "function.__dict__"), (.builtin "function.__dict__#set")]⟩), ⟨[]⟩⟩
noncomputable def o851 : Obj := ⟨(.type "getset_descriptor"), .none, (.fields ⟨[(vs (u (nat_lit 115298466557181117500710751)) (nat_lit 1402)), (.ref (nat_lit 849)), (.builtin "ExceptionGroup.__weakref__"), .none]⟩), ⟨[]⟩⟩
noncomputable def o852 : Obj := ⟨(.type "super"), .none, (.fields ⟨[(.ref (nat_lit 849)), (.ref (nat_lit 849)), (.ref (nat_lit 849))]⟩), ⟨[]⟩⟩
noncomputable def o853 : Obj := ⟨(.type "builtin_function_or_method"), .none, (.fields ⟨[(.builtin "object.__init_subclass__"), (.ref (nat_lit 849))]⟩), ⟨[]⟩⟩
noncomputable def o856 : Obj := ⟨(.type "tuple"), .none, (.seq ⟨[(vs (u (nat_lit 102)) (nat_lit 1410))]⟩ (nat_lit 0)), ⟨[]⟩⟩
noncomputable def o858 : Obj := ⟨.none, .none, (.func (fO (st1 (nat_lit 57)) false (u (nat_lit 7957684015797789032)) (nat_lit 0) .none .none .none .none .none .none .none (nat_lit 0))), ⟨[]⟩⟩
noncomputable def o859 : Obj := ⟨(.type "code"), .none, (.fields ⟨[(vs (u (nat_lit 7957684015797789032)) (nat_lit 1407)), (vs (u (nat_lit 7957684015797789032)) (nat_lit 1408)), (vs (u (nat_lit 9621326145873605890393926034223)) (nat_lit 1409)), (vi (nat_lit 653) (nat_lit 0)), (vi (nat_lit 1) (nat_lit 0)), (vi (nat_lit 0) (nat_lit 0)), (vi (nat_lit 0) (nat_lit 0)), (vi (nat_lit 3) (nat_lit 0)), (.ref (nat_lit 854)), (.bool true), (vi (nat_lit 181) (nat_lit 0)), (.ref (nat_lit 855)), .none, (.ref (nat_lit 856)), (.ref (nat_lit 857)), (.ref (nat_lit 858)), (vi (nat_lit 1411) (nat_lit 0)), (vi (nat_lit 653) (nat_lit 0)), (vs (u (nat_lit 9621326145873605890393926034223)) (nat_lit 1412))]⟩), ⟨[]⟩⟩
noncomputable def o860 : Obj := ⟨(.type "function"), .none, (.func (fO (st1 (nat_lit 57)) false (u (nat_lit 7957684015797789032)) (nat_lit 3) .none .none .none (vs (u (nat_lit 653310468779594700792456556249177723764994172278)) (nat_lit 1027)) .none (.ref (nat_lit 859)) .none (nat_lit 0))), ⟨[]⟩⟩
noncomputable def o863 : Obj := ⟨(.type "tuple"), .none, (.seq ⟨[(vs (u (nat_lit 118)) (nat_lit 1419)), (vs (u (nat_lit 1701667182)) (nat_lit 1420))]⟩ (nat_lit 0)), ⟨[]⟩⟩
noncomputable def o865 : Obj := ⟨.none, .none, (.func (fO (st1 (nat_lit 59)) false (u (nat_lit 8247344779184334183)) (nat_lit 0) .none .none .none .none .none .none .none (nat_lit 0))), ⟨[]⟩⟩
noncomputable def o866 : Obj := ⟨(.type "code"), .none, (.fields ⟨[(vs (u (nat_lit 8247344779184334183)) (nat_lit 1416)), (vs (u (nat_lit 8247344779184334183)) (nat_lit 1417)), (vs (u (nat_lit 9621326145873605890393926034223)) (nat_lit 1418)), (vi (nat_lit 656) (nat_lit 0)), (vi (nat_lit 2) (nat_lit 0)), (vi (nat_lit 0) (nat_lit 0)), (vi (nat_lit 0) (nat_lit 0)), (vi (nat_lit 3) (nat_lit 0)), (.ref (nat_lit 861)), (.bool true), (vi (nat_lit 181) (nat_lit 0)), (.ref (nat_lit 862)), .none, (.ref (nat_lit 863)), (.ref (nat_lit 864)), (.ref (nat_lit 865)), (vi (nat_lit 1421) (nat_lit 0)), (vi (nat_lit 656) (nat_lit 0)), (vs (u (nat_lit 9621326145873605890393926034223)) (nat_lit 1422))]⟩), ⟨[]⟩⟩
noncomputable def o867 : Obj := ⟨(.type "function"), .none, (.func (fO (st1 (nat_lit 59)) false (u (nat_lit 8247344779184334183)) (nat_lit 3) .none .none .none (vs (u (nat_lit 153455503337195306666152327170176017782)) (nat_lit 1414)) .none (.ref (nat_lit 866)) .none (nat_lit 0))), ⟨[]⟩⟩
noncomputable def o870 : Obj := ⟨.none, .none, (.func (fO (st1 (nat_lit 60)) false (u (nat_lit 7381223263511077230)) (nat_lit 0) .none .none .none .none .none .none .none (nat_lit 0))), ⟨[]⟩⟩
noncomputable def o871 : Obj := ⟨(.type "code"), .none, (.fields ⟨[(vs (u (nat_lit 7381223263511077230)) (nat_lit 1424)), (vs (u (nat_lit 7381223263511077230)) (nat_lit 1425)), (vs (u (nat_lit 9621326145873605890393926034223)) (nat_lit 1426)), (vi (nat_lit 660) (nat_lit 0)), (vi (nat_lit 1) (nat_lit 0)), (vi (nat_lit 0) (nat_lit 0)), (vi (nat_lit 0) (nat_lit 0)), (vi (nat_lit 3) (nat_lit 0)), (.ref (nat_lit 868)), (.bool true), (vi (nat_lit 181) (nat_lit 0)), (.ref (nat_lit 869)), .none, .none, .none, (.ref (nat_lit 870)), (vi (nat_lit 1427) (nat_lit 0)), (vi (nat_lit 660) (nat_lit 0)), (vs (u (nat_lit 9621326145873605890393926034223)) (nat_lit 1428))]⟩), ⟨[]⟩⟩
noncomputable def o872 : Obj := ⟨(.type "function"), .none, (.func (fO (st1 (nat_lit 60)) false (u (nat_lit 7381223263511077230)) (nat_lit 3) .none .none .none (vs (u (nat_lit 153455503337195306666152327170176017782)) (nat_lit 1414)) .none (.ref (nat_lit 871)) .none (nat_lit 0))), ⟨[]⟩⟩
noncomputable def o875 : Obj := ⟨(.type "tuple"), .none, (.seq ⟨[(vs (u (nat_lit 118)) (nat_lit 1433)), (vs (u (nat_lit 1936550244)) (nat_lit 1434))]⟩ (nat_lit 0)), ⟨[]⟩⟩
noncomputable def o877 : Obj := ⟨.none, .none, (.func (fO (st1 (nat_lit 61)) false (u (nat_lit 112628528408932)) (nat_lit 0) .none .none .none .none .none .none .none (nat_lit 0))), ⟨[]⟩⟩
noncomputable def o878 : Obj := ⟨(.type "code"), .none, (.fields ⟨[(vs (u (nat_lit 112628528408932)) (nat_lit 1430)), (vs (u (nat_lit 112628528408932)) (nat_lit 1431)), (vs (u (nat_lit 9621326145873605890393926034223)) (nat_lit 1432)), (vi (nat_lit 676) (nat_lit 0)), (vi (nat_lit 1) (nat_lit 0)), (vi (nat_lit 0) (nat_lit 0)), (vi (nat_lit 0) (nat_lit 0)), (vi (nat_lit 3) (nat_lit 0)), (.ref (nat_lit 873)), (.bool true), (vi (nat_lit 181) (nat_lit 0)), (.ref (nat_lit 874)), .none, (.ref (nat_lit 875)), (.ref (nat_lit 876)), (.ref (nat_lit 877)), (vi (nat_lit 1435) (nat_lit 0)), (vi (nat_lit 676) (nat_lit 0)), (vs (u (nat_lit 9621326145873605890393926034223)) (nat_lit 1436))]⟩), ⟨[]⟩⟩
noncomputable def o879 : Obj := ⟨(.type "function"), .none, (.func (fO (st1 (nat_lit 61)) false (u (nat_lit 112628528408932)) (nat_lit 3) .none .none .none (vs (u (nat_lit 153455503337195306666152327170176017782)) (nat_lit 1414)) .none (.ref (nat_lit 878)) .none (nat_lit 0))), ⟨[]⟩⟩
noncomputable def o882 : Obj := ⟨.none, .none, (.func (fO (st1 (nat_lit 62)) false (u (nat_lit 123836377036150261087562084)) (nat_lit 0) .none .none .none .none .none .none .none (nat_lit 0))), ⟨[]⟩⟩
noncomputable def o883 : Obj := ⟨(.type "code"), .none, (.fields ⟨[(vs (u (nat_lit 123836377036150261087562084)) (nat_lit 1438)), (vs (u (nat_lit 123836377036150261087562084)) (nat_lit 1439)), (vs (u (nat_lit 9621326145873605890393926034223)) (nat_lit 1440)), (vi (nat_lit 681) (nat_lit 0)), (vi (nat_lit 1) (nat_lit 0)), (vi (nat_lit 0) (nat_lit 0)), (vi (nat_lit 0) (nat_lit 0)), (vi (nat_lit 3) (nat_lit 0)), (.ref (nat_lit 880)), (.bool true), (vi (nat_lit 181) (nat_lit 0)), (.ref (nat_lit 881)), .none, .none, .none, (.ref (nat_lit 882)), (vi (nat_lit 1441) (nat_lit 0)), (vi (nat_lit 681) (nat_lit 0)), (vs (u (nat_lit 9621326145873605890393926034223)) (nat_lit 1442))]⟩), ⟨[]⟩⟩
noncomputable def o884 : Obj := ⟨(.type "function"), .none, (.func (fO (st1 (nat_lit 62)) false (u (nat_lit 123836377036150261087562084)) (nat_lit 3) .none .none .none (vs (u (nat_lit 153455503337195306666152327170176017782)) (nat_lit 1414)) .none (.ref (nat_lit 883)) .none (nat_lit 0))), ⟨[]⟩⟩
noncomputable def o887 : Obj := ⟨(.type "tuple"), .none, (.seq ⟨[(vs (u (nat_lit 1819042147)) (nat_lit 1449)), (vs (u (nat_lit 500069396323)) (nat_lit 1450))]⟩ (nat_lit 0)), ⟨[]⟩⟩
noncomputable def o889 : Obj := ⟨.none, .none, (.func (fO (st1 (nat_lit 64)) false (u (nat_lit 1684366702)) (nat_lit 0) .none .none .none .none .none .none .none (nat_lit 0))), ⟨[]⟩⟩
noncomputable def o890 : Obj := ⟨(.type "code"), .none, (.fields ⟨[(vs (u (nat_lit 1684366702)) (nat_lit 1446)), (vs (u (nat_lit 1684366702)) (nat_lit 1447)), (vs (u (nat_lit 9621326145873605890393926034223)) (nat_lit 1448)), (vi (nat_lit 687) (nat_lit 0)), (vi (nat_lit 2) (nat_lit 0)), (vi (nat_lit 0) (nat_lit 0)), (vi (nat_lit 0) (nat_lit 0)), (vi (nat_lit 3) (nat_lit 0)), (.ref (nat_lit 885)), (.bool true), (vi (nat_lit 181) (nat_lit 0)), (.ref (nat_lit 886)), .none, (.ref (nat_lit 887)), (.ref (nat_lit 888)), (.ref (nat_lit 889)), (vi (nat_lit 1451) (nat_lit 0)), (vi (nat_lit 687) (nat_lit 0)), (vs (u (nat_lit 9621326145873605890393926034223)) (nat_lit 1452))]⟩), ⟨[]⟩⟩
noncomputable def o891 : Obj := ⟨(.type "function"), .none, (.func (fO (st1 (nat_lit 64)) false (u (nat_lit 1684366702)) (nat_lit 3) .none .none .none (vs (u (nat_lit 9446050359896175955275802531738042558014838)) (nat_lit 1444)) .none (.ref (nat_lit 890)) .none (nat_lit 0))), ⟨[]⟩⟩
noncomputable def o894 : Obj := ⟨.none, .none, (.func (fO (st1 (nat_lit 65)) false (u (nat_lit 483735847805107200749414)) (nat_lit 0) .none .none .none .none .none .none .none (nat_lit 0))), ⟨[]⟩⟩
noncomputable def o895 : Obj := ⟨(.type "code"), .none, (.fields ⟨[(vs (u (nat_lit 483735847805107200749414)) (nat_lit 1454)), (vs (u (nat_lit 483735847805107200749414)) (nat_lit 1455)), (vs (u (nat_lit 9621326145873605890393926034223)) (nat_lit 1456)), (vi (nat_lit 690) (nat_lit 0)), (vi (nat_lit 1) (nat_lit 0)), (vi (nat_lit 0) (nat_lit 0)), (vi (nat_lit 0) (nat_lit 0)), (vi (nat_lit 3) (nat_lit 0)), (.ref (nat_lit 892)), (.bool true), (vi (nat_lit 181) (nat_lit 0)), (.ref (nat_lit 893)), .none, .none, .none, (.ref (nat_lit 894)), (vi (nat_lit 1457) (nat_lit 0)), (vi (nat_lit 690) (nat_lit 0)), (vs (u (nat_lit 9621326145873605890393926034223)) (nat_lit 1458))]⟩), ⟨[]⟩⟩
noncomputable def o896 : Obj := ⟨(.type "function"), .none, (.func (fO (st1 (nat_lit 65)) false (u (nat_lit 483735847805107200749414)) (nat_lit 3) .none .none .none (vs (u (nat_lit 9446050359896175955275802531738042558014838)) (nat_lit 1444)) .none (.ref (nat_lit 895)) .none (nat_lit 0))), ⟨[]⟩⟩
noncomputable def o899 : Obj := ⟨(.type "tuple"), .none, (.seq ⟨[(vs (u (nat_lit 123636630711913)) (nat_lit 1463)), (vs (u (nat_lit 1819042147)) (nat_lit 1464)), (vs (u (nat_lit 7761509)) (nat_lit 1465))]⟩ (nat_lit 0)), ⟨[]⟩⟩
noncomputable def o901 : Obj := ⟨.none, .none, (.func (fO (st1 (nat_lit 66)) false (u (nat_lit 521515500515640081801075)) (nat_lit 0) .none .none .none .none .none .none .none (nat_lit 0))), ⟨[]⟩⟩
noncomputable def o902 : Obj := ⟨(.type "code"), .none, (.fields ⟨[(vs (u (nat_lit 521515500515640081801075)) (nat_lit 1460)), (vs (u (nat_lit 521515500515640081801075)) (nat_lit 1461)), (vs (u (nat_lit 9621326145873605890393926034223)) (nat_lit 1462)), (vi (nat_lit 702) (nat_lit 0)), (vi (nat_lit 3) (nat_lit 0)), (vi (nat_lit 0) (nat_lit 0)), (vi (nat_lit 0) (nat_lit 0)), (vi (nat_lit 3) (nat_lit 0)), (.ref (nat_lit 897)), (.bool true), (vi (nat_lit 181) (nat_lit 0)), (.ref (nat_lit 898)), .none, (.ref (nat_lit 899)), (.ref (nat_lit 900)), (.ref (nat_lit 901)), (vi (nat_lit 1466) (nat_lit 0)), (vi (nat_lit 702) (nat_lit 0)), (vs (u (nat_lit 9621326145873605890393926034223)) (nat_lit 1467))]⟩), ⟨[]⟩⟩
noncomputable def o903 : Obj := ⟨(.type "function"), .none, (.func (fO (st1 (nat_lit 66)) false (u (nat_lit 521515500515640081801075)) (nat_lit 3) .none .none .none (vs (u (nat_lit 9446050359896175955275802531738042558014838)) (nat_lit 1444)) .none (.ref (nat_lit 902)) .none (nat_lit 0))), ⟨[]⟩⟩
noncomputable def o906 : Obj := ⟨(.type "tuple"), .none, (.seq ⟨[(vs (u (nat_lit 123636630711913)) (nat_lit 1472)), (vs (u (nat_lit 1819042147)) (nat_lit 1473)), (vs (u (nat_lit 7761509)) (nat_lit 1474)), (vs (u (nat_lit 1835365481)) (nat_lit 1475))]⟩ (nat_lit 0)), ⟨[]⟩⟩
noncomputable def o908 : Obj := ⟨.none, .none, (.func (fO (st1 (nat_lit 67)) false (u (nat_lit 1907970656748337717107)) (nat_lit 0) .none .none .none .none .none .none .none (nat_lit 0))), ⟨[]⟩⟩
noncomputable def o909 : Obj := ⟨(.type "code"), .none, (.fields ⟨[(vs (u (nat_lit 1907970656748337717107)) (nat_lit 1469)), (vs (u (nat_lit 1907970656748337717107)) (nat_lit 1470)), (vs (u (nat_lit 9621326145873605890393926034223)) (nat_lit 1471)), (vi (nat_lit 706) (nat_lit 0)), (vi (nat_lit 3) (nat_lit 0)), (vi (nat_lit 0) (nat_lit 0)), (vi (nat_lit 0) (nat_lit 0)), (vi (nat_lit 3) (nat_lit 0)), (.ref (nat_lit 904)), (.bool true), (vi (nat_lit 181) (nat_lit 0)), (.ref (nat_lit 905)), .none, (.ref (nat_lit 906)), (.ref (nat_lit 907)), (.ref (nat_lit 908)), (vi (nat_lit 1476) (nat_lit 0)), (vi (nat_lit 706) (nat_lit 0)), (vs (u (nat_lit 9621326145873605890393926034223)) (nat_lit 1477))]⟩), ⟨[]⟩⟩
noncomputable def o910 : Obj := ⟨(.type "function"), .none, (.func (fO (st1 (nat_lit 67)) false (u (nat_lit 1907970656748337717107)) (nat_lit 3) .none .none .none (vs (u (nat_lit 9446050359896175955275802531738042558014838)) (nat_lit 1444)) .none (.ref (nat_lit 909)) .none (nat_lit 0))), ⟨[]⟩⟩
noncomputable def o913 : Obj := ⟨(.type "tuple"), .none, (.seq ⟨[(vs (u (nat_lit 435744240755)) (nat_lit 1484)), (vs (u (nat_lit 1953722221)) (nat_lit 1485)), (vs (u (nat_lit 7827314)) (nat_lit 1486)), (vs (u (nat_lit 29793)) (nat_lit 1487))]⟩ (nat_lit 0)), ⟨[]⟩⟩
noncomputable def o915 : Obj := ⟨.none, .none, (.func (fO (st1 (nat_lit 69)) false (u (nat_lit 1870858745032837524575)) (nat_lit 0) .none .none .none .none .none .none .none (nat_lit 0))), ⟨[]⟩⟩
noncomputable def o916 : Obj := ⟨(.type "code"), .none, (.fields ⟨[(vs (u (nat_lit 1870858745032837524575)) (nat_lit 1481)), (vs (u (nat_lit 1870858745032837524575)) (nat_lit 1482)), (vs (u (nat_lit 9621326145873605890393926034223)) (nat_lit 1483)), (vi (nat_lit 715) (nat_lit 0)), (vi (nat_lit 2) (nat_lit 0)), (vi (nat_lit 0) (nat_lit 0)), (vi (nat_lit 0) (nat_lit 0)), (vi (nat_lit 3) (nat_lit 0)), (.ref (nat_lit 911)), (.bool true), (vi (nat_lit 181) (nat_lit 0)), (.ref (nat_lit 912)), .none, (.ref (nat_lit 913)), (.ref (nat_lit 914)), (.ref (nat_lit 915)), (vi (nat_lit 1488) (nat_lit 0)), (vi (nat_lit 715) (nat_lit 0)), (vs (u (nat_lit 9621326145873605890393926034223)) (nat_lit 1489))]⟩), ⟨[]⟩⟩
noncomputable def o917 : Obj := ⟨(.type "function"), .none, (.func (fO (st1 (nat_lit 69)) false (u (nat_lit 1870858745032837524575)) (nat_lit 3) .none .none .none (vs (u (nat_lit 3897150338093948975878642295148)) (nat_lit 1479)) .none (.ref (nat_lit 916)) .none (nat_lit 0))), ⟨[]⟩⟩
noncomputable def o920 : Obj := ⟨(.type "tuple"), .none, (.seq ⟨[(vs (u (nat_lit 123636630711913)) (nat_lit 1494)), (vs (u (nat_lit 1819042147)) (nat_lit 1495)), (vs (u (nat_lit 7761509)) (nat_lit 1496))]⟩ (nat_lit 0)), ⟨[]⟩⟩
noncomputable def o922 : Obj := ⟨.none, .none, (.func (fO (st1 (nat_lit 70)) false (u (nat_lit 7234029357279308895)) (nat_lit 0) .none .none .none .none .none .none .none (nat_lit 0))), ⟨[]⟩⟩
noncomputable def o923 : Obj := ⟨(.type "code"), .none, (.fields ⟨[(vs (u (nat_lit 7234029357279308895)) (nat_lit 1491)), (vs (u (nat_lit 7234029357279308895)) (nat_lit 1492)), (vs (u (nat_lit 9621326145873605890393926034223)) (nat_lit 1493)), (vi (nat_lit 721) (nat_lit 0)), (vi (nat_lit 3) (nat_lit 0)), (vi (nat_lit 0) (nat_lit 0)), (vi (nat_lit 0) (nat_lit 0)), (vi (nat_lit 3) (nat_lit 0)), (.ref (nat_lit 918)), (.bool true), (vi (nat_lit 181) (nat_lit 0)), (.ref (nat_lit 919)), .none, (.ref (nat_lit 920)), (.ref (nat_lit 921)), (.ref (nat_lit 922)), (vi (nat_lit 1497) (nat_lit 0)), (vi (nat_lit 721) (nat_lit 0)), (vs (u (nat_lit 9621326145873605890393926034223)) (nat_lit 1498))]⟩), ⟨[]⟩⟩
noncomputable def o924 : Obj := ⟨(.type "function"), .none, (.func (fO (st1 (nat_lit 70)) false (u (nat_lit 7234029357279308895)) (nat_lit 3) .none .none .none (vs (u (nat_lit 3897150338093948975878642295148)) (nat_lit 1479)) .none (.ref (nat_lit 923)) .none (nat_lit 0))), ⟨[]⟩⟩
noncomputable def o927 : Obj := ⟨(.type "tuple"), .none, (.seq ⟨[(vs (u (nat_lit 123636630711913)) (nat_lit 1503)), (vs (u (nat_lit 1936159329)) (nat_lit 1504)), (vs (u (nat_lit 7761509)) (nat_lit 1505))]⟩ (nat_lit 0)), ⟨[]⟩⟩
noncomputable def o929 : Obj := ⟨.none, .none, (.func (fO (st1 (nat_lit 71)) false (u (nat_lit 521404241352874967264351)) (nat_lit 0) .none .none .none .none .none .none .none (nat_lit 0))), ⟨[]⟩⟩
noncomputable def o930 : Obj := ⟨(.type "code"), .none, (.fields ⟨[(vs (u (nat_lit 521404241352874967264351)) (nat_lit 1500)), (vs (u (nat_lit 521404241352874967264351)) (nat_lit 1501)), (vs (u (nat_lit 9621326145873605890393926034223)) (nat_lit 1502)), (vi (nat_lit 724) (nat_lit 0)), (vi (nat_lit 3) (nat_lit 0)), (vi (nat_lit 0) (nat_lit 0)), (vi (nat_lit 0) (nat_lit 0)), (vi (nat_lit 3) (nat_lit 0)), (.ref (nat_lit 925)), (.bool true), (vi (nat_lit 181) (nat_lit 0)), (.ref (nat_lit 926)), .none, (.ref (nat_lit 927)), (.ref (nat_lit 928)), (.ref (nat_lit 929)), (vi (nat_lit 1506) (nat_lit 0)), (vi (nat_lit 724) (nat_lit 0)), (vs (u (nat_lit 9621326145873605890393926034223)) (nat_lit 1507))]⟩), ⟨[]⟩⟩
noncomputable def o931 : Obj := ⟨(.type "function"), .none, (.func (fO (st1 (nat_lit 71)) false (u (nat_lit 521404241352874967264351)) (nat_lit 3) .none .none .none (vs (u (nat_lit 3897150338093948975878642295148)) (nat_lit 1479)) .none (.ref (nat_lit 930)) .none (nat_lit 0))), ⟨[]⟩⟩
noncomputable def o934 : Obj := ⟨(.type "tuple"), .none, (.seq ⟨[(vs (u (nat_lit 123636630711913)) (nat_lit 1512)), (vs (u (nat_lit 1936159329)) (nat_lit 1513)), (vs (u (nat_lit 7761509)) (nat_lit 1514))]⟩ (nat_lit 0)), ⟨[]⟩⟩
noncomputable def o936 : Obj := ⟨.none, .none, (.func (fO (st1 (nat_lit 72)) false (u (nat_lit 1853136508753088179295)) (nat_lit 0) .none .none .none .none .none .none .none (nat_lit 0))), ⟨[]⟩⟩
noncomputable def o937 : Obj := ⟨(.type "code"), .none, (.fields ⟨[(vs (u (nat_lit 1853136508753088179295)) (nat_lit 1509)), (vs (u (nat_lit 1853136508753088179295)) (nat_lit 1510)), (vs (u (nat_lit 9621326145873605890393926034223)) (nat_lit 1511)), (vi (nat_lit 726) (nat_lit 0)), (vi (nat_lit 3) (nat_lit 0)), (vi (nat_lit 0) (nat_lit 0)), (vi (nat_lit 0) (nat_lit 0)), (vi (nat_lit 3) (nat_lit 0)), (.ref (nat_lit 932)), (.bool true), (vi (nat_lit 181) (nat_lit 0)), (.ref (nat_lit 933)), .none, (.ref (nat_lit 934)), (.ref (nat_lit 935)), (.ref (nat_lit 936)), (vi (nat_lit 1515) (nat_lit 0)), (vi (nat_lit 726) (nat_lit 0)), (vs (u (nat_lit 9621326145873605890393926034223)) (nat_lit 1516))]⟩), ⟨[]⟩⟩
noncomputable def o938 : Obj := ⟨(.type "function"), .none, (.func (fO (st1 (nat_lit 72)) false (u (nat_lit 1853136508753088179295)) (nat_lit 3) .none .none .none (vs (u (nat_lit 3897150338093948975878642295148)) (nat_lit 1479)) .none (.ref (nat_lit 937)) .none (nat_lit 0))), ⟨[]⟩⟩
noncomputable def o941 : Obj := ⟨(.type "tuple"), .none, (.seq ⟨[(vs (u (nat_lit 123636630711913)) (nat_lit 1521)), (vs (u (nat_lit 31078196194145634)) (nat_lit 1522)), (vs (u (nat_lit 1819042147)) (nat_lit 1523)), (vs (u (nat_lit 1936159329)) (nat_lit 1524)), (vs (u (nat_lit 7761509)) (nat_lit 1525))]⟩ (nat_lit 0)), ⟨[]⟩⟩
noncomputable def o943 : Obj := ⟨.none, .none, (.func (fO (st1 (nat_lit 73)) false (u (nat_lit 521331171860693811031135)) (nat_lit 0) .none .none .none .none .none .none .none (nat_lit 0))), ⟨[]⟩⟩
noncomputable def o944 : Obj := ⟨(.type "code"), .none, (.fields ⟨[(vs (u (nat_lit 521331171860693811031135)) (nat_lit 1518)), (vs (u (nat_lit 521331171860693811031135)) (nat_lit 1519)), (vs (u (nat_lit 9621326145873605890393926034223)) (nat_lit 1520)), (vi (nat_lit 729) (nat_lit 0)), (vi (nat_lit 5) (nat_lit 0)), (vi (nat_lit 0) (nat_lit 0)), (vi (nat_lit 0) (nat_lit 0)), (vi (nat_lit 3) (nat_lit 0)), (.ref (nat_lit 939)), (.bool true), (vi (nat_lit 181) (nat_lit 0)), (.ref (nat_lit 940)), .none, (.ref (nat_lit 941)), (.ref (nat_lit 942)), (.ref (nat_lit 943)), (vi (nat_lit 1526) (nat_lit 0)), (vi (nat_lit 729) (nat_lit 0)), (vs (u (nat_lit 9621326145873605890393926034223)) (nat_lit 1527))]⟩), ⟨[]⟩⟩
noncomputable def o945 : Obj := ⟨(.type "function"), .none, (.func (fO (st1 (nat_lit 73)) false (u (nat_lit 521331171860693811031135)) (nat_lit 3) .none .none .none (vs (u (nat_lit 3897150338093948975878642295148)) (nat_lit 1479)) .none (.ref (nat_lit 944)) .none (nat_lit 0))), ⟨[]⟩⟩
noncomputable def o948 : Obj := ⟨(.type "tuple"), .none, (.seq ⟨[(vs (u (nat_lit 123636630711913)) (nat_lit 1532)), (vs (u (nat_lit 1684627827)) (nat_lit 1533)), (vs (u (nat_lit 1819042147)) (nat_lit 1534))]⟩ (nat_lit 0)), ⟨[]⟩⟩
noncomputable def o950 : Obj := ⟨.none, .none, (.func (fO (st1 (nat_lit 74)) false (u (nat_lit 549665232268924605787231)) (nat_lit 0) .none .none .none .none .none .none .none (nat_lit 0))), ⟨[]⟩⟩
noncomputable def o951 : Obj := ⟨(.type "code"), .none, (.fields ⟨[(vs (u (nat_lit 549665232268924605787231)) (nat_lit 1529)), (vs (u (nat_lit 549665232268924605787231)) (nat_lit 1530)), (vs (u (nat_lit 9621326145873605890393926034223)) (nat_lit 1531)), (vi (nat_lit 732) (nat_lit 0)), (vi (nat_lit 3) (nat_lit 0)), (vi (nat_lit 0) (nat_lit 0)), (vi (nat_lit 0) (nat_lit 0)), (vi (nat_lit 3) (nat_lit 0)), (.ref (nat_lit 946)), (.bool true), (vi (nat_lit 181) (nat_lit 0)), (.ref (nat_lit 947)), .none, (.ref (nat_lit 948)), (.ref (nat_lit 949)), (.ref (nat_lit 950)), (vi (nat_lit 1535) (nat_lit 0)), (vi (nat_lit 732) (nat_lit 0)), (vs (u (nat_lit 9621326145873605890393926034223)) (nat_lit 1536))]⟩), ⟨[]⟩⟩
noncomputable def o952 : Obj := ⟨(.type "function"), .none, (.func (fO (st1 (nat_lit 74)) false (u (nat_lit 549665232268924605787231)) (nat_lit 3) .none .none .none (vs (u (nat_lit 3897150338093948975878642295148)) (nat_lit 1479)) .none (.ref (nat_lit 951)) .none (nat_lit 0))), ⟨[]⟩⟩
noncomputable def o955 : Obj := ⟨.none, .none, (.func (fO (st1 (nat_lit 75)) false (u (nat_lit 7823724)) (nat_lit 0) .none .none .none .none .none .none .none (nat_lit 0))), ⟨[]⟩⟩
noncomputable def o956 : Obj := ⟨(.type "code"), .none, (.fields ⟨[(vs (u (nat_lit 7823724)) (nat_lit 1538)), (vs (u (nat_lit 7823724)) (nat_lit 1539)), (vs (u (nat_lit 9621326145873605890393926034223)) (nat_lit 1540)), (vi (nat_lit 735) (nat_lit 0)), (vi (nat_lit 1) (nat_lit 0)), (vi (nat_lit 0) (nat_lit 0)), (vi (nat_lit 0) (nat_lit 0)), (vi (nat_lit 3) (nat_lit 0)), (.ref (nat_lit 953)), (.bool true), (vi (nat_lit 181) (nat_lit 0)), (.ref (nat_lit 954)), .none, .none, .none, (.ref (nat_lit 955)), (vi (nat_lit 1541) (nat_lit 0)), (vi (nat_lit 735) (nat_lit 0)), (vs (u (nat_lit 9621326145873605890393926034223)) (nat_lit 1542))]⟩), ⟨[]⟩⟩
noncomputable def o957 : Obj := ⟨(.type "function"), .none, (.func (fO (st1 (nat_lit 75)) false (u (nat_lit 7823724)) (nat_lit 3) .none .none .none (vs (u (nat_lit 3897150338093948975878642295148)) (nat_lit 1479)) .none (.ref (nat_lit 956)) .none (nat_lit 0))), ⟨[]⟩⟩
noncomputable def o2_0 (P : Params) : Obj := ⟨.none, .none, (.dict ⟨((es2 P).take (nat_lit 0))⟩ (nat_lit 0)), ⟨[]⟩⟩
noncomputable def o3_0 (P : Params) : Obj := ⟨(.type "dict"), .none, (.dict ⟨[en P (u (nat_lit 6872323076851130207)) (nat_lit 165) (vs (u (nat_lit 6872332955275845471)) (nat_lit 164))] ++ ((((es3 P).drop (nat_lit 1)).take (nat_lit 8)))⟩ (nat_lit 9)), ⟨[]⟩⟩
noncomputable def o12_0 : Obj := ⟨.none, .none, (.fields ⟨(es12.take (nat_lit 0))⟩), ⟨[]⟩⟩
noncomputable def o3_6 (P : Params) : Obj := ⟨(.type "dict"), .none, (.dict ⟨[en P (u (nat_lit 6872323076851130207)) (nat_lit 165) (vs (u (nat_lit 39284582853636720492305858640467560981878)) (nat_lit 194))] ++ ((((es3 P).drop (nat_lit 1)).take (nat_lit 13)))⟩ (nat_lit 14)), ⟨[]⟩⟩
noncomputable def o12_6 : Obj := ⟨.none, .none, (.fields ⟨(es12.take (nat_lit 15))⟩), ⟨[]⟩⟩
noncomputable def o31_6 : Obj := ⟨(.type "type"), .none, (.cls ⟨(u (nat_lit 2110959431130824470339)), [(.type "Exception")], [(.ref (nat_lit 31)), (.type "Exception"), (.type "BaseException"), (.type "object")], (nat_lit 30), (u (nat_lit 2110959431130824470339)), true, [], (es31.take (nat_lit 3)), false, .none, false⟩), ⟨[(.some (.ref (nat_lit 22))), .none, (.some (vs (u (nat_lit 2110959431130824470339)) (nat_lit 196))), (.some (vs (u (nat_lit 2110959431130824470339)) (nat_lit 204))), (.some (.builtin "Exception.__new__")), (.some (.bool true))]⟩⟩
noncomputable def o3_11 (P : Params) : Obj := ⟨(.type "dict"), .none, (.dict ⟨[en P (u (nat_lit 6872323076851130207)) (nat_lit 165) (vs (u (nat_lit 39267333920436592655438326915056458229110)) (nat_lit 349))] ++ ((((es3 P).drop (nat_lit 1)).take (nat_lit 17)))⟩ (nat_lit 18)), ⟨[]⟩⟩
noncomputable def o12_11 : Obj := ⟨.none, .none, (.fields ⟨(es12.take (nat_lit 27))⟩), ⟨[]⟩⟩
noncomputable def o3_15 (P : Params) : Obj := ⟨(.type "dict"), .none, (.dict ⟨[en P (u (nat_lit 6872323076851130207)) (nat_lit 165) (vs (u (nat_lit 39267333920436592655438326915056458229110)) (nat_lit 349))] ++ ((((es3 P).drop (nat_lit 1)).take (nat_lit 21)))⟩ (nat_lit 22)), ⟨[]⟩⟩
noncomputable def o12_15 : Obj := ⟨.none, .none, (.fields ⟨(es12.take (nat_lit 39))⟩), ⟨[]⟩⟩
noncomputable def o3_22 (P : Params) : Obj := ⟨(.type "dict"), .none, (.dict ⟨[en P (u (nat_lit 6872323076851130207)) (nat_lit 165) (vs (u (nat_lit 39267333920436592655438326915056458229110)) (nat_lit 349))] ++ ((((es3 P).drop (nat_lit 1)).take (nat_lit 28)))⟩ (nat_lit 29)), ⟨[]⟩⟩
noncomputable def o12_22 : Obj := ⟨.none, .none, (.fields ⟨(es12.take (nat_lit 60))⟩), ⟨[]⟩⟩
noncomputable def o3_44 (P : Params) : Obj := ⟨(.type "dict"), .none, (.dict ⟨[en P (u (nat_lit 6872323076851130207)) (nat_lit 165) (vs (u (nat_lit 9445006827650914498653618408238052328826230)) (nat_lit 921))] ++ ((((es3 P).drop (nat_lit 1)).take (nat_lit 47)))⟩ (nat_lit 48)), ⟨[]⟩⟩
noncomputable def o12_44 : Obj := ⟨.none, .none, (.fields ⟨(es12.take (nat_lit 117))⟩), ⟨[]⟩⟩
noncomputable def o3_56 (P : Params) : Obj := ⟨(.type "dict"), .none, (.dict ⟨[en P (u (nat_lit 6872323076851130207)) (nat_lit 165) (vs (u (nat_lit 653310468779594700792456556249177723764994172278)) (nat_lit 1027))] ++ ((((es3 P).drop (nat_lit 1)).take (nat_lit 58)))⟩ (nat_lit 59)), ⟨[]⟩⟩
noncomputable def o12_56 : Obj := ⟨.none, .none, (.fields ⟨(es12.take (nat_lit 150))⟩), ⟨[]⟩⟩
noncomputable def o3_57 (P : Params) : Obj := ⟨(.type "dict"), .none, (.dict ⟨[en P (u (nat_lit 6872323076851130207)) (nat_lit 165) (vs (u (nat_lit 653310468779594700792456556249177723764994172278)) (nat_lit 1027))] ++ ((((es3 P).drop (nat_lit 1)).take (nat_lit 59)))⟩ (nat_lit 60)), ⟨[]⟩⟩
noncomputable def o12_57 : Obj := ⟨.none, .none, (.fields ⟨(es12.take (nat_lit 153))⟩), ⟨[]⟩⟩
noncomputable def t0 (P : Params) : BT := (.node (o0 P) (.node (o1 P) (.node (o3_0 P) (lf o7) (lf o7)) (.node o5 (lf o9) (lf o13))) (.node (o2_0 P) (.node o4 (lf o8) (lf o12_0)) (.node o6 (lf o10) (lf o14))))
noncomputable def S0 (w : World) (os : OsState) : SharedT := ⟨t0 w.params, (nat_lit 15), {}, #[], {}, (nat_lit 187), os⟩
noncomputable def p0 : Pos := ⟨(nat_lit 0), (nat_lit 0), (nat_lit 0), (nat_lit 0)⟩
noncomputable def t6 (P : Params) : BT := (.node (o0 P) (.node (o1 P) (.node (o3_6 P) (.node o7 (.node o7 (.node o31_6 (lf o63) .nil) (.node o47 (lf o79) .nil)) (.node o23 (.node o39 (lf o71) .nil) (.node o23 (lf o87) .nil))) (.node o7 (.node o19 (.node o35 (lf o67) .nil) (.node o51 (lf o7) .nil)) (.node o27 (.node o8 (lf (o75 P)) .nil) (.node o59 (lf o91) .nil)))) (.node o5 (.node o9 (.node o17 (.node o33 (lf o65) .nil) (.node o49 (lf o8) .nil)) (.node o7 (.node o41 (lf o35) .nil) (.node o7 (lf o89) .nil))) (.node o13 (.node o21 (.node (o37 P) (lf (o69 P)) .nil) (.node o53 (lf o85) .nil)) (.node o7 (.node o7 (lf o77) .nil) (lf o7))))) (.node (o2 P) (.node o4 (.node o8 (.node o8 (.node o32 (lf o7) .nil) (.node o48 (lf o7) .nil)) (.node (o24 P) (.node o40 (lf o72) .nil) (.node (o56 P) (lf (o88 P)) .nil))) (.node o12_6 (.node o20 (.node o23 (lf o68) .nil) (.node o52 (lf o84) .nil)) (.node o28 (.node o44 (lf o7) .nil) (lf o60)))) (.node o6 (.node o10 (.node o7 (.node o34 (lf o66) .nil) (.node (o50 P) (lf o82) .nil)) (.node o8 (.node o7 (lf o23) .nil) (.node o58 (lf o90) .nil))) (.node o14 (.node o22 (.node o7 (lf o70) .nil) (.node o35 (lf o86) .nil)) (.node (o30 P) (.node o46 (lf o78) .nil) (lf o8))))))
noncomputable def S6 (w : World) (os : OsState) : SharedT := ⟨t6 w.params, (nat_lit 92), {}, #[], {}, (nat_lit 295), os⟩
noncomputable def p6 : Pos := ⟨(nat_lit 17), (nat_lit 0), (nat_lit 20), (nat_lit 24)⟩
noncomputable def t11 (P : Params) : BT := (.node (o0 P) (.node (o1 P) (.node (o3_11 P) (.node o7 (.node o7 (.node o31 (.node o63 (lf o127) .nil) (.node o7 (lf o8) .nil)) (.node o47 (.node o79 (lf o143) .nil) (lf o35))) (.node o23 (.node o39 (.node o71 (lf o135) .nil) (.node o103 (lf o167) .nil)) (.node o23 (.node o87 (lf o7) .nil) (lf o8)))) (.node o7 (.node o19 (.node o35 (.node o67 (lf o23) .nil) (.node o7 (lf o163) .nil)) (.node o51 (.node o7 (lf o147) .nil) (lf o115))) (.node o27 (.node o8 (.node (o75 P) (lf o139) .nil) (.node (o107 P) (lf o171) .nil)) (.node o59 (.node o91 (lf o155) .nil) (lf o123))))) (.node o5 (.node o9 (.node o17 (.node o33 (.node o65 (lf o129) .nil) (.node o97 (lf o7) .nil)) (.node o49 (.node o8 (lf (o145 P)) .nil) (lf (o113 P)))) (.node o7 (.node o41 (.node o35 (lf o7) .nil) (.node o105 (lf o169) .nil)) (.node o7 (.node o89 (lf (o153 P)) .nil) (lf o7)))) (.node o13 (.node o21 (.node (o37 P) (.node (o69 P) (lf o7) .nil) (.node o101 (lf o165) .nil)) (.node o53 (.node o85 (lf o149) .nil) (lf o117))) (.node o7 (.node o7 (.node o77 (lf o141) .nil) (lf o109)) (.node o7 (.node o23 (lf o157) .nil) (lf o125)))))) (.node (o2 P) (.node o4 (.node o8 (.node o8 (.node o32 (.node o7 (lf o128) .nil) (.node o96 (lf o160) .nil)) (.node o48 (.node o7 (lf o144) .nil) (lf o23))) (.node (o24 P) (.node o40 (.node o72 (lf o136) .nil) (.node o104 (lf o168) .nil)) (.node (o56 P) (.node (o88 P) (lf o23) .nil) (lf o120)))) (.node o12_11 (.node o20 (.node o23 (.node o68 (lf (o132 P)) .nil) (.node o8 (lf o164) .nil)) (.node o52 (.node o84 (lf o148) .nil) (lf o116))) (.node o28 (.node o44 (.node o7 (lf o7) .nil) (lf o108)) (.node o60 (.node o35 (lf o156) .nil) (lf o124))))) (.node o6 (.node o10 (.node o7 (.node o34 (.node o66 (lf o7) .nil) (.node o98 (lf o162) .nil)) (.node (o50 P) (.node o82 (lf o146) .nil) (lf o7))) (.node o8 (.node o7 (.node o23 (lf o8) .nil) (.node o106 (lf o170) .nil)) (.node o58 (.node o90 (lf o7) .nil) (lf o122)))) (.node o14 (.node o22 (.node o7 (.node o70 (lf o134) .nil) (.node o7 (lf (o166 P)) .nil)) (.node o35 (.node o86 (lf o150) .nil) (lf o7))) (.node (o30 P) (.node o46 (.node o78 (lf o142) .nil) (lf o110)) (.node o8 (.node (o94 P) (lf o7) .nil) (lf (o126 P))))))))
noncomputable def S11 (w : World) (os : OsState) : SharedT := ⟨t11 w.params, (nat_lit 172), {}, #[], {}, (nat_lit 409), os⟩
noncomputable def p11 : Pos := ⟨(nat_lit 37), (nat_lit 0), (nat_lit 41), (nat_lit 25)⟩
noncomputable def t15 (P : Params) : BT := (.node (o0 P) (.node (o1 P) (.node (o3_15 P) (.node o7 (.node o7 (.node o31 (.node o63 (.node o127 (lf o7) .nil) (lf o191)) (.node o7 (lf o8) (lf o23))) (.node o47 (.node o79 (lf o143) (lf o207)) (.node o35 (lf o7) (lf o239)))) (.node o23 (.node o39 (.node o71 (.node o135 (lf o263) .nil) (lf o199)) (.node o103 (lf o167) (lf o8))) (.node o23 (.node o87 (lf o7) (lf o215)) (.node o8 (lf o7) (lf o7))))) (.node o7 (.node o19 (.node o35 (.node o67 (.node o23 (lf o259) .nil) (lf (o195 P))) (.node o7 (lf o163) (lf o227))) (.node o51 (.node o7 (lf o147) (lf o7)) (.node o115 (lf o179) (lf o243)))) (.node o27 (.node o8 (.node (o75 P) (lf o139) (lf (o203 P))) (.node (o107 P) (lf o171) (lf o235))) (.node o59 (.node o91 (lf o155) (lf o219)) (.node o123 (lf o7) (lf o179)))))) (.node o5 (.node o9 (.node o17 (.node o33 (.node o65 (.node o129 (lf o257) .nil) (lf o193)) (.node o97 (lf o7) (lf o7))) (.node o49 (.node o8 (lf (o145 P)) (lf o8)) (.node (o113 P) (lf o177) (lf o241)))) (.node o7 (.node o41 (.node o35 (.node o7 (lf o265) .nil) (lf o7)) (.node o105 (lf o169) (lf o7))) (.node o7 (.node o89 (lf (o153 P)) (lf o217)) (.node o7 (lf o185) (lf o249))))) (.node o13 (.node o21 (.node (o37 P) (.node (o69 P) (.node o7 (lf o261) .nil) (lf o197)) (.node o101 (lf o165) (lf o179))) (.node o53 (.node o85 (lf o149) (lf o213)) (.node o117 (lf o8) (lf o23)))) (.node o7 (.node o7 (.node o77 (lf o141) (lf o205)) (.node o109 (lf o23) (lf o237))) (.node o7 (.node o23 (lf o157) (lf o221)) (.node o125 (lf o189) (lf o8))))))) (.node (o2 P) (.node o4 (.node o8 (.node o8 (.node o32 (.node o7 (.node o128 (lf o256) .nil) (lf o192)) (.node o96 (lf o160) (lf (o224 P)))) (.node o48 (.node o7 (lf o144) (lf o7)) (.node o23 (lf o176) (lf o240)))) (.node (o24 P) (.node o40 (.node o72 (.node o136 (lf o264) .nil) (lf o200)) (.node o104 (lf o168) (lf o232))) (.node (o56 P) (.node (o88 P) (lf o23) (lf (o216 P))) (.node o120 (lf o184) (lf o248))))) (.node o12_15 (.node o20 (.node o23 (.node o68 (.node (o132 P) (lf (o260 P)) .nil) (lf o196)) (.node o8 (lf o164) (lf o228))) (.node o52 (.node o84 (lf o148) (lf o212)) (.node o116 (lf o7) (lf o7)))) (.node o28 (.node o44 (.node o7 (lf o7) (lf o7)) (.node o108 (lf o7) (lf o236))) (.node o60 (.node o35 (lf o156) (lf o220)) (.node o124 (lf o8) (lf o7)))))) (.node o6 (.node o10 (.node o7 (.node o34 (.node o66 (.node o7 (lf o258) .nil) (lf o194)) (.node o98 (lf o162) (lf o226))) (.node (o50 P) (.node o82 (lf o146) (lf o210)) (.node o7 (lf o178) (lf o242)))) (.node o8 (.node o7 (.node o23 (lf o8) (lf o23)) (.node o106 (lf o170) (lf o234))) (.node o58 (.node o90 (lf o7) (lf o218)) (.node o122 (lf o186) (lf o250))))) (.node o14 (.node o22 (.node o7 (.node o70 (.node o134 (lf o262) .nil) (lf o198)) (.node o7 (lf (o166 P)) (lf o7))) (.node o35 (.node o86 (lf o150) (lf o214)) (.node o7 (lf o182) (lf (o246 P))))) (.node (o30 P) (.node o46 (.node o78 (lf o142) (lf o206)) (.node o110 (lf (o174 P)) (lf (o238 P)))) (.node o8 (.node (o94 P) (lf o7) (lf o7)) (.node (o126 P) (lf o7) (lf o254))))))))
noncomputable def S15 (w : World) (os : OsState) : SharedT := ⟨t15 w.params, (nat_lit 266), {}, #[], {}, (nat_lit 553), os⟩
noncomputable def p15 : Pos := ⟨(nat_lit 67), (nat_lit 0), (nat_lit 74), (nat_lit 26)⟩
noncomputable def t22 (P : Params) : BT := (.node (o0 P) (.node (o1 P) (.node (o3_22 P) (.node o7 (.node o7 (.node o31 (.node o63 (.node o127 (lf o7) .nil) (.node o191 (lf o7) .nil)) (.node o7 (.node o8 (lf o7) .nil) (.node o23 (lf o7) .nil))) (.node o47 (.node o79 (.node o143 (lf o271) .nil) (.node o207 (lf o335) .nil)) (.node o35 (.node o7 (lf (o303 P)) .nil) (.node o239 (lf o367) .nil)))) (.node o23 (.node o39 (.node o71 (.node o135 (lf o263) .nil) (.node o199 (lf o327) .nil)) (.node o103 (.node o167 (lf o7) .nil) (.node o8 (lf o8) .nil))) (.node o23 (.node o87 (.node o7 (lf o279) .nil) (.node o215 (lf o343) .nil)) (.node o8 (.node o7 (lf (o311 P)) .nil) (lf o7))))) (.node o7 (.node o19 (.node o35 (.node o67 (.node o23 (lf o259) .nil) (.node (o195 P) (lf o323) .nil)) (.node o7 (.node o163 (lf o291) .nil) (.node o227 (lf o355) .nil))) (.node o51 (.node o7 (.node o147 (lf o275) .nil) (.node o7 (lf o339) .nil)) (.node o115 (.node o179 (lf o307) .nil) (.node o243 (lf o371) .nil)))) (.node o27 (.node o8 (.node (o75 P) (.node o139 (lf o23) .nil) (.node (o203 P) (lf o23) .nil)) (.node (o107 P) (.node o171 (lf o299) .nil) (.node o235 (lf o363) .nil))) (.node o59 (.node o91 (.node o155 (lf o283) .nil) (.node o219 (lf o347) .nil)) (.node o123 (.node o7 (lf o315) .nil) (lf o179)))))) (.node o5 (.node o9 (.node o17 (.node o33 (.node o65 (.node o129 (lf o257) .nil) (.node o193 (lf o321) .nil)) (.node o97 (.node o7 (lf (o289 P)) .nil) (.node o7 (lf o7) .nil))) (.node o49 (.node o8 (.node (o145 P) (lf o7) .nil) (.node o8 (lf o7) .nil)) (.node (o113 P) (.node o177 (lf o305) .nil) (.node o241 (lf o369) .nil)))) (.node o7 (.node o41 (.node o35 (.node o7 (lf o265) .nil) (.node o7 (lf o329) .nil)) (.node o105 (.node o169 (lf o297) .nil) (.node o7 (lf o7) .nil))) (.node o7 (.node o89 (.node (o153 P) (lf (o281 P)) .nil) (.node o217 (lf (o345 P)) .nil)) (.node o7 (.node o185 (lf o313) .nil) (lf o249))))) (.node o13 (.node o21 (.node (o37 P) (.node (o69 P) (.node o7 (lf o261) .nil) (.node o197 (lf o325) .nil)) (.node o101 (.node o165 (lf o293) .nil) (.node o179 (lf o357) .nil))) (.node o53 (.node o85 (.node o149 (lf o277) .nil) (.node o213 (lf o341) .nil)) (.node o117 (.node o8 (lf o7) .nil) (lf o23)))) (.node o7 (.node o7 (.node o77 (.node o141 (lf o7) .nil) (.node o205 (lf o7) .nil)) (.node o109 (.node o23 (lf o301) .nil) (.node o237 (lf o7) .nil))) (.node o7 (.node o23 (.node o157 (lf o285) .nil) (.node o221 (lf o349) .nil)) (.node o125 (.node o189 (lf o8) .nil) (lf o8))))))) (.node (o2 P) (.node o4 (.node o8 (.node o8 (.node o32 (.node o7 (.node o128 (lf o256) .nil) (.node o192 (lf o320) .nil)) (.node o96 (.node o160 (lf o23) .nil) (.node (o224 P) (lf o8) .nil))) (.node o48 (.node o7 (.node o144 (lf o272) .nil) (.node o7 (lf o336) .nil)) (.node o23 (.node o176 (lf o304) .nil) (.node o240 (lf o7) .nil)))) (.node (o24 P) (.node o40 (.node o72 (.node o136 (lf o264) .nil) (.node o200 (lf o328) .nil)) (.node o104 (.node o168 (lf o8) .nil) (.node o232 (lf o7) .nil))) (.node (o56 P) (.node (o88 P) (.node o23 (lf o280) .nil) (.node (o216 P) (lf o344) .nil)) (.node o120 (.node o184 (lf o7) .nil) (lf o248))))) (.node o12_22 (.node o20 (.node o23 (.node o68 (.node (o132 P) (lf (o260 P)) .nil) (.node o196 (lf (o324 P)) .nil)) (.node o8 (.node o164 (lf o292) .nil) (.node o228 (lf o356) .nil))) (.node o52 (.node o84 (.node o148 (lf o7) .nil) (.node o212 (lf o7) .nil)) (.node o116 (.node o7 (lf o308) .nil) (lf o7)))) (.node o28 (.node o44 (.node o7 (.node o7 (lf (o268 P)) .nil) (.node o7 (lf (o332 P)) .nil)) (.node o108 (.node o7 (lf o300) .nil) (.node o236 (lf o364) .nil))) (.node o60 (.node o35 (.node o156 (lf o284) .nil) (.node o220 (lf o348) .nil)) (.node o124 (.node o8 (lf o7) .nil) (lf o7)))))) (.node o6 (.node o10 (.node o7 (.node o34 (.node o66 (.node o7 (lf o258) .nil) (.node o194 (lf o322) .nil)) (.node o98 (.node o162 (lf o7) .nil) (.node o226 (lf o7) .nil))) (.node (o50 P) (.node o82 (.node o146 (lf o8) .nil) (.node o210 (lf o8) .nil)) (.node o7 (.node o178 (lf o306) .nil) (.node o242 (lf o370) .nil)))) (.node o8 (.node o7 (.node o23 (.node o8 (lf o7) .nil) (.node o23 (lf o7) .nil)) (.node o106 (.node o170 (lf o7) .nil) (.node o234 (lf o362) .nil))) (.node o58 (.node o90 (.node o7 (lf o282) .nil) (.node o218 (lf o346) .nil)) (.node o122 (.node o186 (lf o314) .nil) (lf o250))))) (.node o14 (.node o22 (.node o7 (.node o70 (.node o134 (lf o262) .nil) (.node o198 (lf o326) .nil)) (.node o7 (.node (o166 P) (lf o179) .nil) (.node o7 (lf o7) .nil))) (.node o35 (.node o86 (.node o150 (lf o278) .nil) (.node o214 (lf o342) .nil)) (.node o7 (.node o182 (lf o23) .nil) (lf (o246 P))))) (.node (o30 P) (.node o46 (.node o78 (.node o142 (lf o270) .nil) (.node o206 (lf o334) .nil)) (.node o110 (.node (o174 P) (lf o302) .nil) (.node (o238 P) (lf o8) .nil))) (.node o8 (.node (o94 P) (.node o7 (lf o286) .nil) (.node o7 (lf o350) .nil)) (.node (o126 P) (.node o7 (lf o318) .nil) (lf o254))))))))
noncomputable def S22 (w : World) (os : OsState) : SharedT := ⟨t22 w.params, (nat_lit 372), {}, #[], {}, (nat_lit 713), os⟩
noncomputable def p22 : Pos := ⟨(nat_lit 114), (nat_lit 0), (nat_lit 115), (nat_lit 43)⟩
noncomputable def t44 (P : Params) : BT := (.node (o0 P) (.node (o1 P) (.node (o3_44 P) (.node o7 (.node o7 (.node o31 (.node o63 (.node o127 (.node o7 (lf o511) .nil) (lf o383)) (.node o191 (lf o7) (lf o7))) (.node o7 (.node o8 (.node o7 (lf o7) .nil) (lf o7)) (.node o23 (lf o7) (lf o479)))) (.node o47 (.node o79 (.node o143 (.node o271 (lf o527) .nil) (lf o8)) (.node o207 (lf o335) (lf o463))) (.node o35 (.node o7 (lf (o303 P)) (lf o431)) (.node o239 (lf o367) (lf o495))))) (.node o23 (.node o39 (.node o71 (.node o135 (.node o263 (lf o519) .nil) (lf o7)) (.node o199 (lf o327) (lf o23))) (.node o103 (.node o167 (.node o7 (lf o551) .nil) (lf o423)) (.node o8 (lf o8) (lf o487)))) (.node o23 (.node o87 (.node o7 (.node o279 (lf o7) .nil) (lf o407)) (.node o215 (lf o343) (lf o7))) (.node o8 (.node o7 (lf (o311 P)) (lf o439)) (.node o7 (lf o7) (lf o7)))))) (.node o7 (.node o19 (.node o35 (.node o67 (.node o23 (.node o259 (lf o7) .nil) (lf o7)) (.node (o195 P) (lf o323) (lf o451))) (.node o7 (.node o163 (.node o291 (lf o7) .nil) (lf o7)) (.node o227 (lf o355) (lf o8)))) (.node o51 (.node o7 (.node o147 (.node o275 (lf o531) .nil) (lf o403)) (.node o7 (lf o339) (lf o467))) (.node o115 (.node o179 (lf o307) (lf o435)) (.node o243 (lf o371) (lf o7))))) (.node o27 (.node o8 (.node (o75 P) (.node o139 (.node o23 (lf o8) .nil) (lf o395)) (.node (o203 P) (lf o23) (lf o459))) (.node (o107 P) (.node o171 (lf o299) (lf o8)) (.node o235 (lf o363) (lf o491)))) (.node o59 (.node o91 (.node o155 (.node o283 (lf o539) .nil) (lf o411)) (.node o219 (lf o347) (lf o7))) (.node o123 (.node o7 (lf o315) (lf o7)) (.node o179 (lf o7) (lf o507))))))) (.node o5 (.node o9 (.node o17 (.node o33 (.node o65 (.node o129 (.node o257 (lf o513) .nil) (lf o8)) (.node o193 (lf o321) (lf o449))) (.node o97 (.node o7 (.node (o289 P) (lf o545) .nil) (lf o417)) (.node o7 (lf o7) (lf o481)))) (.node o49 (.node o8 (.node (o145 P) (.node o7 (lf o7) .nil) (lf o7)) (.node o8 (lf o7) (lf o465))) (.node (o113 P) (.node o177 (lf o305) (lf o7)) (.node o241 (lf o369) (lf o8))))) (.node o7 (.node o41 (.node o35 (.node o7 (.node o265 (lf o521) .nil) (lf o393)) (.node o7 (lf o329) (lf o7))) (.node o105 (.node o169 (.node o297 (lf o553) .nil) (lf o425)) (.node o7 (lf o7) (lf o7)))) (.node o7 (.node o89 (.node (o153 P) (.node (o281 P) (lf o537) .nil) (lf o409)) (.node o217 (lf (o345 P)) (lf o473))) (.node o7 (.node o185 (lf o313) (lf o8)) (.node o249 (lf o377) (lf o505)))))) (.node o13 (.node o21 (.node (o37 P) (.node (o69 P) (.node o7 (.node o261 (lf o517) .nil) (lf o389)) (.node o197 (lf o325) (lf o453))) (.node o101 (.node o165 (.node o293 (lf o549) .nil) (lf o421)) (.node o179 (lf o357) (lf o7)))) (.node o53 (.node o85 (.node o149 (.node o277 (lf o533) .nil) (lf o7)) (.node o213 (lf o341) (lf o8))) (.node o117 (.node o8 (lf o7) (lf o437)) (.node o23 (lf o8) (lf o501))))) (.node o7 (.node o7 (.node o77 (.node o141 (.node o7 (lf o7) .nil) (lf o397)) (.node o205 (lf o7) (lf o7))) (.node o109 (.node o23 (lf o301) (lf o7)) (.node o237 (lf o7) (lf o493)))) (.node o7 (.node o23 (.node o157 (.node o285 (lf o8) .nil) (lf o8)) (.node o221 (lf o349) (lf o477))) (.node o125 (.node o189 (lf o8) (lf o445)) (.node o8 (lf o381) (lf (o509 P))))))))) (.node (o2 P) (.node o4 (.node o8 (.node o8 (.node o32 (.node o7 (.node o128 (.node o256 (lf o512) .nil) (lf o7)) (.node o192 (lf o320) (lf o8))) (.node o96 (.node o160 (.node o23 (lf o544) .nil) (lf o416)) (.node (o224 P) (lf o8) (lf o480)))) (.node o48 (.node o7 (.node o144 (.node o272 (lf o528) .nil) (lf o400)) (.node o7 (lf o336) (lf o7))) (.node o23 (.node o176 (lf o304) (lf o432)) (.node o240 (lf o7) (lf o7))))) (.node (o24 P) (.node o40 (.node o72 (.node o136 (.node o264 (lf o520) .nil) (lf o8)) (.node o200 (lf o328) (lf (o456 P)))) (.node o104 (.node o168 (.node o8 (lf o552) .nil) (lf o424)) (.node o232 (lf o7) (lf o488)))) (.node (o56 P) (.node (o88 P) (.node o23 (.node o280 (lf o8) .nil) (lf o7)) (.node (o216 P) (lf o344) (lf o472))) (.node o120 (.node o184 (lf o7) (lf o7)) (.node o248 (lf o376) (lf o8)))))) (.node o12_44 (.node o20 (.node o23 (.node o68 (.node (o132 P) (.node (o260 P) (lf o8) .nil) (lf o388)) (.node o196 (lf (o324 P)) (lf o452))) (.node o8 (.node o164 (.node o292 (lf o8) .nil) (lf o8)) (.node o228 (lf o356) (lf o484)))) (.node o52 (.node o84 (.node o148 (.node o7 (lf o532) .nil) (lf o404)) (.node o212 (lf o7) (lf o7))) (.node o116 (.node o7 (lf o308) (lf o7)) (.node o7 (lf o7) (lf o500))))) (.node o28 (.node o44 (.node o7 (.node o7 (.node (o268 P) (lf o524) .nil) (lf o396)) (.node o7 (lf (o332 P)) (lf o460))) (.node o108 (.node o7 (lf o300) (lf o428)) (.node o236 (lf o364) (lf o7)))) (.node o60 (.node o35 (.node o156 (.node o284 (lf o7) .nil) (lf o7)) (.node o220 (lf o348) (lf o8))) (.node o124 (.node o8 (lf o7) (lf o444)) (.node o7 (lf o8) (lf o508))))))) (.node o6 (.node o10 (.node o7 (.node o34 (.node o66 (.node o7 (.node o258 (lf o514) .nil) (lf o386)) (.node o194 (lf o322) (lf o7))) (.node o98 (.node o162 (.node o7 (lf o546) .nil) (lf o418)) (.node o226 (lf o7) (lf o7)))) (.node (o50 P) (.node o82 (.node o146 (.node o8 (lf o8) .nil) (lf o402)) (.node o210 (lf o8) (lf o466))) (.node o7 (.node o178 (lf o306) (lf o8)) (.node o242 (lf o370) (lf o498))))) (.node o8 (.node o7 (.node o23 (.node o8 (.node o7 (lf o7) .nil) (lf o7)) (.node o23 (lf o7) (lf o458))) (.node o106 (.node o170 (lf o7) (lf o7)) (.node o234 (lf o362) (lf o8)))) (.node o58 (.node o90 (.node o7 (.node o282 (lf o538) .nil) (lf o410)) (.node o218 (lf o346) (lf o474))) (.node o122 (.node o186 (lf o314) (lf o442)) (.node o250 (lf o378) (lf o506)))))) (.node o14 (.node o22 (.node o7 (.node o70 (.node o134 (.node o262 (lf o7) .nil) (lf o390)) (.node o198 (lf o326) (lf o7))) (.node o7 (.node (o166 P) (.node o179 (lf o7) .nil) (lf o7)) (.node o7 (lf o7) (lf o486)))) (.node o35 (.node o86 (.node o150 (.node o278 (lf o179) .nil) (lf o8)) (.node o214 (lf o342) (lf o470))) (.node o7 (.node o182 (lf o23) (lf o438)) (.node (o246 P) (lf o374) (lf o502))))) (.node (o30 P) (.node o46 (.node o78 (.node o142 (.node o270 (lf o526) .nil) (lf o7)) (.node o206 (lf o334) (lf o8))) (.node o110 (.node (o174 P) (lf o302) (lf o430)) (.node (o238 P) (lf o8) (lf o494)))) (.node o8 (.node (o94 P) (.node o7 (.node o286 (lf o542) .nil) (lf o414)) (.node o7 (lf o350) (lf o7))) (.node (o126 P) (.node o7 (lf o318) (lf o446)) (.node o254 (lf o382) (lf o510)))))))))
noncomputable def S44 (w : World) (os : OsState) : SharedT := ⟨t44 w.params, (nat_lit 554), {}, #[], {}, (nat_lit 939), os⟩
noncomputable def p44 : Pos := ⟨(nat_lit 245), (nat_lit 0), (nat_lit 248), (nat_lit 44)⟩
noncomputable def t56 (P : Params) : BT := (.node (o0 P) (.node (o1 P) (.node (o3_56 P) (.node o7 (.node o7 (.node o31 (.node o63 (.node o127 (.node o7 (lf o511) .nil) (.node o383 (lf o639) .nil)) (.node o191 (.node o7 (lf o8) .nil) (lf o7))) (.node o7 (.node o8 (.node o7 (lf o7) .nil) (lf o7)) (.node o23 (.node o7 (lf o607) .nil) (lf o479)))) (.node o47 (.node o79 (.node o143 (.node o271 (lf o527) .nil) (lf o8)) (.node o207 (.node o335 (lf o7) .nil) (lf o463))) (.node o35 (.node o7 (.node (o303 P) (lf o559) .nil) (lf o431)) (.node o239 (.node o367 (lf o7) .nil) (lf o495))))) (.node o23 (.node o39 (.node o71 (.node o135 (.node o263 (lf o519) .nil) (lf o7)) (.node o199 (.node o327 (lf o583) .nil) (lf o23))) (.node o103 (.node o167 (.node o7 (lf o551) .nil) (lf o423)) (.node o8 (.node o8 (lf o615) .nil) (lf o487)))) (.node o23 (.node o87 (.node o7 (.node o279 (lf o7) .nil) (lf o407)) (.node o215 (.node o343 (lf o599) .nil) (lf o7))) (.node o8 (.node o7 (.node (o311 P) (lf o567) .nil) (lf o439)) (.node o7 (.node o7 (lf o8) .nil) (lf o7)))))) (.node o7 (.node o19 (.node o35 (.node o67 (.node o23 (.node o259 (lf o7) .nil) (.node o7 (lf o643) .nil)) (.node (o195 P) (.node o323 (lf o579) .nil) (lf o451))) (.node o7 (.node o163 (.node o291 (lf o7) .nil) (lf o7)) (.node o227 (.node o355 (lf o611) .nil) (lf o8)))) (.node o51 (.node o7 (.node o147 (.node o275 (lf o531) .nil) (lf o403)) (.node o7 (.node o339 (lf o7) .nil) (lf o467))) (.node o115 (.node o179 (.node o307 (lf o563) .nil) (lf o435)) (.node o243 (.node o371 (lf o627) .nil) (lf o7))))) (.node o27 (.node o8 (.node (o75 P) (.node o139 (.node o23 (lf o8) .nil) (lf o395)) (.node (o203 P) (.node o23 (lf o587) .nil) (lf o459))) (.node (o107 P) (.node o171 (.node o299 (lf o8) .nil) (lf o8)) (.node o235 (.node o363 (lf o7) .nil) (lf o491)))) (.node o59 (.node o91 (.node o155 (.node o283 (lf o539) .nil) (lf o411)) (.node o219 (.node o347 (lf o8) .nil) (lf o7))) (.node o123 (.node o7 (.node o315 (lf o571) .nil) (lf o7)) (.node o179 (.node o7 (lf o635) .nil) (lf o507))))))) (.node o5 (.node o9 (.node o17 (.node o33 (.node o65 (.node o129 (.node o257 (lf o513) .nil) (.node o8 (lf o641) .nil)) (.node o193 (.node o321 (lf o7) .nil) (lf o449))) (.node o97 (.node o7 (.node (o289 P) (lf o545) .nil) (lf o417)) (.node o7 (.node o7 (lf o7) .nil) (lf o481)))) (.node o49 (.node o8 (.node (o145 P) (.node o7 (lf o7) .nil) (lf o7)) (.node o8 (.node o7 (lf o593) .nil) (lf o465))) (.node (o113 P) (.node o177 (.node o305 (lf o7) .nil) (lf o7)) (.node o241 (.node o369 (lf (o625 P)) .nil) (lf o8))))) (.node o7 (.node o41 (.node o35 (.node o7 (.node o265 (lf o521) .nil) (lf o393)) (.node o7 (.node o329 (lf o585) .nil) (lf o7))) (.node o105 (.node o169 (.node o297 (lf o553) .nil) (lf o425)) (.node o7 (.node o7 (lf o8) .nil) (lf o7)))) (.node o7 (.node o89 (.node (o153 P) (.node (o281 P) (lf o537) .nil) (lf o409)) (.node o217 (.node (o345 P) (lf o601) .nil) (lf o473))) (.node o7 (.node o185 (.node o313 (lf o7) .nil) (lf o8)) (.node o249 (.node o377 (lf o7) .nil) (lf o505)))))) (.node o13 (.node o21 (.node (o37 P) (.node (o69 P) (.node o7 (.node o261 (lf o517) .nil) (lf o389)) (.node o197 (.node o325 (lf o7) .nil) (lf o453))) (.node o101 (.node o165 (.node o293 (lf o549) .nil) (lf o421)) (.node o179 (.node o357 (lf o613) .nil) (lf o7)))) (.node o53 (.node o85 (.node o149 (.node o277 (lf o533) .nil) (lf o7)) (.node o213 (.node o341 (lf o597) .nil) (lf o8))) (.node o117 (.node o8 (.node o7 (lf o565) .nil) (lf o437)) (.node o23 (.node o8 (lf o629) .nil) (lf o501))))) (.node o7 (.node o7 (.node o77 (.node o141 (.node o7 (lf o7) .nil) (lf o397)) (.node o205 (.node o7 (lf o8) .nil) (lf o7))) (.node o109 (.node o23 (.node o301 (lf o7) .nil) (lf o7)) (.node o237 (.node o7 (lf o621) .nil) (lf o493)))) (.node o7 (.node o23 (.node o157 (.node o285 (lf o8) .nil) (lf o8)) (.node o221 (.node o349 (lf o7) .nil) (lf o477))) (.node o125 (.node o189 (.node o8 (lf o573) .nil) (lf o445)) (.node o8 (.node o381 (lf o637) .nil) (lf (o509 P))))))))) (.node (o2 P) (.node o4 (.node o8 (.node o8 (.node o32 (.node o7 (.node o128 (.node o256 (lf o512) .nil) (.node o7 (lf o640) .nil)) (.node o192 (.node o320 (lf o576) .nil) (lf o8))) (.node o96 (.node o160 (.node o23 (lf o544) .nil) (lf o416)) (.node (o224 P) (.node o8 (lf o608) .nil) (lf o480)))) (.node o48 (.node o7 (.node o144 (.node o272 (lf o528) .nil) (lf o400)) (.node o7 (.node o336 (lf o592) .nil) (lf o7))) (.node o23 (.node o176 (.node o304 (lf o560) .nil) (lf o432)) (.node o240 (.node o7 (lf o23) .nil) (lf o7))))) (.node (o24 P) (.node o40 (.node o72 (.node o136 (.node o264 (lf o520) .nil) (lf o8)) (.node o200 (.node o328 (lf o7) .nil) (lf (o456 P)))) (.node o104 (.node o168 (.node o8 (lf o552) .nil) (lf o424)) (.node o232 (.node o7 (lf o7) .nil) (lf o488)))) (.node (o56 P) (.node (o88 P) (.node o23 (.node o280 (lf o8) .nil) (lf o7)) (.node (o216 P) (.node o344 (lf o600) .nil) (lf o472))) (.node o120 (.node o184 (.node o7 (lf o179) .nil) (lf o7)) (.node o248 (.node o376 (lf o632) .nil) (lf o8)))))) (.node o12_56 (.node o20 (.node o23 (.node o68 (.node (o132 P) (.node (o260 P) (lf o8) .nil) (lf o388)) (.node o196 (.node (o324 P) (lf o580) .nil) (lf o452))) (.node o8 (.node o164 (.node o292 (lf o8) .nil) (lf o8)) (.node o228 (.node o356 (lf o7) .nil) (lf o484)))) (.node o52 (.node o84 (.node o148 (.node o7 (lf o532) .nil) (lf o404)) (.node o212 (.node o7 (lf o8) .nil) (lf o7))) (.node o116 (.node o7 (.node o308 (lf o7) .nil) (lf o7)) (.node o7 (.node o7 (lf o628) .nil) (lf o500))))) (.node o28 (.node o44 (.node o7 (.node o7 (.node (o268 P) (lf o524) .nil) (lf o396)) (.node o7 (.node (o332 P) (lf o7) .nil) (lf o460))) (.node o108 (.node o7 (.node o300 (lf o556) .nil) (lf o428)) (.node o236 (.node o364 (lf o620) .nil) (lf o7)))) (.node o60 (.node o35 (.node o156 (.node o284 (lf o7) .nil) (lf o7)) (.node o220 (.node o348 (lf o604) .nil) (lf o8))) (.node o124 (.node o8 (.node o7 (lf o572) .nil) (lf o444)) (.node o7 (.node o8 (lf o636) .nil) (lf o508))))))) (.node o6 (.node o10 (.node o7 (.node o34 (.node o66 (.node o7 (.node o258 (lf o514) .nil) (.node o386 (lf o642) .nil)) (.node o194 (.node o322 (lf o578) .nil) (lf o7))) (.node o98 (.node o162 (.node o7 (lf o546) .nil) (lf o418)) (.node o226 (.node o7 (lf o8) .nil) (lf o7)))) (.node (o50 P) (.node o82 (.node o146 (.node o8 (lf o8) .nil) (lf o402)) (.node o210 (.node o8 (lf o594) .nil) (lf o466))) (.node o7 (.node o178 (.node o306 (lf o8) .nil) (lf o8)) (.node o242 (.node o370 (lf o7) .nil) (lf o498))))) (.node o8 (.node o7 (.node o23 (.node o8 (.node o7 (lf o7) .nil) (lf o7)) (.node o23 (.node o7 (lf o586) .nil) (lf o458))) (.node o106 (.node o170 (.node o7 (lf o7) .nil) (lf o7)) (.node o234 (.node o362 (lf o618) .nil) (lf o8)))) (.node o58 (.node o90 (.node o7 (.node o282 (lf o538) .nil) (lf o410)) (.node o218 (.node o346 (lf o7) .nil) (lf o474))) (.node o122 (.node o186 (.node o314 (lf o8) .nil) (lf o442)) (.node o250 (.node o378 (lf o634) .nil) (lf o506)))))) (.node o14 (.node o22 (.node o7 (.node o70 (.node o134 (.node o262 (lf o7) .nil) (lf o390)) (.node o198 (.node o326 (lf o8) .nil) (lf o7))) (.node o7 (.node (o166 P) (.node o179 (lf o7) .nil) (lf o7)) (.node o7 (.node o7 (lf o614) .nil) (lf o486)))) (.node o35 (.node o86 (.node o150 (.node o278 (lf o179) .nil) (lf o8)) (.node o214 (.node o342 (lf o7) .nil) (lf o470))) (.node o7 (.node o182 (.node o23 (lf o566) .nil) (lf o438)) (.node (o246 P) (.node o374 (lf o7) .nil) (lf o502))))) (.node (o30 P) (.node o46 (.node o78 (.node o142 (.node o270 (lf o526) .nil) (lf o7)) (.node o206 (.node o334 (lf o590) .nil) (lf o8))) (.node o110 (.node (o174 P) (.node o302 (lf o558) .nil) (lf o430)) (.node (o238 P) (.node o8 (lf o622) .nil) (lf o494)))) (.node o8 (.node (o94 P) (.node o7 (.node o286 (lf o542) .nil) (lf o414)) (.node o7 (.node o350 (lf o606) .nil) (lf o7))) (.node (o126 P) (.node o7 (.node o318 (lf o7) .nil) (lf o446)) (.node o254 (.node o382 (lf (o638 P)) .nil) (lf o510)))))))))
noncomputable def S56 (w : World) (os : OsState) : SharedT := ⟨t56 w.params, (nat_lit 644), {}, #[], {}, (nat_lit 1068), os⟩
noncomputable def p56 : Pos := ⟨(nat_lit 339), (nat_lit 0), (nat_lit 348), (nat_lit 28)⟩
noncomputable def t57 (P : Params) : BT := (.node (o0 P) (.node (o1 P) (.node (o3_57 P) (.node o7 (.node o7 (.node o31 (.node o63 (.node o127 (.node o7 (lf o511) (lf o7)) (.node o383 (lf o639) .nil)) (.node o191 (.node o7 (lf o8) (lf o831)) (.node o7 (lf o7) .nil))) (.node o7 (.node o8 (.node o7 (lf o7) (lf o7)) (.node o7 (lf o671) .nil)) (.node o23 (.node o7 (lf o607) .nil) (.node o479 (lf o7) .nil)))) (.node o47 (.node o79 (.node o143 (.node o271 (lf o527) (lf o8)) (.node o8 (lf o7) .nil)) (.node o207 (.node o335 (lf o7) (lf o847)) (.node o463 (lf o719) .nil))) (.node o35 (.node o7 (.node (o303 P) (lf o559) (lf o815)) (.node o431 (lf o687) .nil)) (.node o239 (.node o367 (lf o7) .nil) (.node o495 (lf o751) .nil))))) (.node o23 (.node o39 (.node o71 (.node o135 (.node o263 (lf o519) (lf o7)) (.node o7 (lf o7) .nil)) (.node o199 (.node o327 (lf o583) (lf o839)) (.node o23 (lf o8) .nil))) (.node o103 (.node o167 (.node o7 (lf o551) (lf o7)) (.node o423 (lf o679) .nil)) (.node o8 (.node o8 (lf o615) .nil) (.node o487 (lf o743) .nil)))) (.node o23 (.node o87 (.node o7 (.node o279 (lf o7) (lf o791)) (.node o407 (lf o663) .nil)) (.node o215 (.node o343 (lf o599) .nil) (.node o7 (lf o7) .nil))) (.node o8 (.node o7 (.node (o311 P) (lf o567) (lf o823)) (.node o439 (lf o695) .nil)) (.node o7 (.node o7 (lf o8) .nil) (.node o7 (lf o759) .nil)))))) (.node o7 (.node o19 (.node o35 (.node o67 (.node o23 (.node o259 (lf o7) (lf o771)) (.node o7 (lf o643) .nil)) (.node (o195 P) (.node o323 (lf o579) (lf o835)) (.node o451 (lf o707) .nil))) (.node o7 (.node o163 (.node o291 (lf o7) (lf o179)) (.node o7 (lf o8) .nil)) (.node o227 (.node o355 (lf o611) .nil) (.node o8 (lf o7) .nil)))) (.node o51 (.node o7 (.node o147 (.node o275 (lf o531) (lf o787)) (.node o403 (lf o7) .nil)) (.node o7 (.node o339 (lf o7) (lf o851)) (.node o467 (lf o723) .nil))) (.node o115 (.node o179 (.node o307 (lf o563) (lf o8)) (.node o435 (lf o691) .nil)) (.node o243 (.node o371 (lf o627) .nil) (.node o7 (lf o755) .nil))))) (.node o27 (.node o8 (.node (o75 P) (.node o139 (.node o23 (lf o8) (lf o779)) (.node o395 (lf o651) .nil)) (.node (o203 P) (.node o23 (lf o587) (lf o7)) (.node o459 (lf o715) .nil))) (.node (o107 P) (.node o171 (.node o299 (lf o8) (lf o7)) (.node o8 (lf o683) .nil)) (.node o235 (.node o363 (lf o7) .nil) (.node o491 (lf o8) .nil)))) (.node o59 (.node o91 (.node o155 (.node o283 (lf o539) (lf o795)) (.node o411 (lf o7) .nil)) (.node o219 (.node o347 (lf o8) .nil) (.node o7 (lf o179) .nil))) (.node o123 (.node o7 (.node o315 (lf o571) (lf o827)) (.node o7 (lf o7) .nil)) (.node o179 (.node o7 (lf o635) .nil) (.node o507 (lf o7) .nil))))))) (.node o5 (.node o9 (.node o17 (.node o33 (.node o65 (.node o129 (.node o257 (lf o513) (lf o769)) (.node o8 (lf o641) .nil)) (.node o193 (.node o321 (lf o7) (lf o7)) (.node o449 (lf o705) .nil))) (.node o97 (.node o7 (.node (o289 P) (lf o545) (lf o801)) (.node o417 (lf o673) .nil)) (.node o7 (.node o7 (lf o7) .nil) (.node o481 (lf o737) .nil)))) (.node o49 (.node o8 (.node (o145 P) (.node o7 (lf o7) (lf o7)) (.node o7 (lf o657) .nil)) (.node o8 (.node o7 (lf o593) (lf o849)) (.node o465 (lf o721) .nil))) (.node (o113 P) (.node o177 (.node o305 (lf o7) (lf o817)) (.node o7 (lf o7) .nil)) (.node o241 (.node o369 (lf (o625 P)) .nil) (.node o8 (lf o7) .nil))))) (.node o7 (.node o41 (.node o35 (.node o7 (.node o265 (lf o521) (lf o777)) (.node o393 (lf o649) .nil)) (.node o7 (.node o329 (lf o585) (lf o8)) (.node o7 (lf o7) .nil))) (.node o105 (.node o169 (.node o297 (lf o553) (lf o809)) (.node o425 (lf o7) .nil)) (.node o7 (.node o7 (lf o8) .nil) (.node o7 (lf o745) .nil)))) (.node o7 (.node o89 (.node (o153 P) (.node (o281 P) (lf o537) (lf o793)) (.node o409 (lf o665) .nil)) (.node o217 (.node (o345 P) (lf o601) .nil) (.node o473 (lf o729) .nil))) (.node o7 (.node o185 (.node o313 (lf o7) (lf o7)) (.node o8 (lf o8) .nil)) (.node o249 (.node o377 (lf o7) .nil) (.node o505 (lf o8) .nil)))))) (.node o13 (.node o21 (.node (o37 P) (.node (o69 P) (.node o7 (.node o261 (lf o517) (lf o773)) (.node o389 (lf o23) .nil)) (.node o197 (.node o325 (lf o7) (lf o837)) (.node o453 (lf o709) .nil))) (.node o101 (.node o165 (.node o293 (lf o549) (lf o8)) (.node o421 (lf o7) .nil)) (.node o179 (.node o357 (lf o613) .nil) (.node o7 (lf o741) .nil)))) (.node o53 (.node o85 (.node o149 (.node o277 (lf o533) (lf o7)) (.node o7 (lf o661) .nil)) (.node o213 (.node o341 (lf o597) (lf o853)) (.node o8 (lf o8) .nil))) (.node o117 (.node o8 (.node o7 (lf o565) (lf o7)) (.node o437 (lf o693) .nil)) (.node o23 (.node o8 (lf o629) .nil) (.node o501 (lf o757) .nil))))) (.node o7 (.node o7 (.node o77 (.node o141 (.node o7 (lf o7) (lf o781)) (.node o397 (lf o8) .nil)) (.node o205 (.node o7 (lf o8) (lf o845)) (.node o7 (lf o7) .nil))) (.node o109 (.node o23 (.node o301 (lf o7) (lf o813)) (.node o7 (lf o685) .nil)) (.node o237 (.node o7 (lf o621) .nil) (.node o493 (lf o7) .nil)))) (.node o7 (.node o23 (.node o157 (.node o285 (lf o8) (lf o8)) (.node o8 (lf o669) .nil)) (.node o221 (.node o349 (lf o7) .nil) (.node o477 (lf o8) .nil))) (.node o125 (.node o189 (.node o8 (lf o573) (lf o829)) (.node o445 (lf o701) .nil)) (.node o8 (.node o381 (lf o637) .nil) (.node (o509 P) (lf o765) .nil)))))))) (.node (o2 P) (.node o4 (.node o8 (.node o8 (.node o32 (.node o7 (.node o128 (.node o256 (lf o512) (lf o8)) (.node o7 (lf o640) .nil)) (.node o192 (.node o320 (lf o576) (lf o179)) (.node o8 (lf o8) .nil))) (.node o96 (.node o160 (.node o23 (lf o544) (lf o800)) (.node o416 (lf o672) .nil)) (.node (o224 P) (.node o8 (lf o608) .nil) (.node o480 (lf o736) .nil)))) (.node o48 (.node o7 (.node o144 (.node o272 (lf o528) (lf o784)) (.node o400 (lf o656) .nil)) (.node o7 (.node o336 (lf o592) (lf (o848 P))) (.node o7 (lf o7) .nil))) (.node o23 (.node o176 (.node o304 (lf o560) (lf o816)) (.node o432 (lf o179) .nil)) (.node o240 (.node o7 (lf o23) .nil) (.node o7 (lf o752) .nil))))) (.node (o24 P) (.node o40 (.node o72 (.node o136 (.node o264 (lf o520) (lf o8)) (.node o8 (lf o648) .nil)) (.node o200 (.node o328 (lf o7) (lf o7)) (.node (o456 P) (lf o712) .nil))) (.node o104 (.node o168 (.node o8 (lf o552) (lf o808)) (.node o424 (lf o680) .nil)) (.node o232 (.node o7 (lf o7) .nil) (.node o488 (lf o744) .nil)))) (.node (o56 P) (.node (o88 P) (.node o23 (.node o280 (lf o8) (lf o7)) (.node o7 (lf o664) .nil)) (.node (o216 P) (.node o344 (lf o600) .nil) (.node o472 (lf o728) .nil))) (.node o120 (.node o184 (.node o7 (lf o179) (lf o824)) (.node o7 (lf o7) .nil)) (.node o248 (.node o376 (lf o632) .nil) (.node o8 (lf o7) .nil)))))) (.node o12_57 (.node o20 (.node o23 (.node o68 (.node (o132 P) (.node (o260 P) (lf o8) (lf o772)) (.node o388 (lf o7) .nil)) (.node o196 (.node (o324 P) (lf o580) (lf o7)) (.node o452 (lf o708) .nil))) (.node o8 (.node o164 (.node o292 (lf o8) (lf o7)) (.node o8 (lf o676) .nil)) (.node o228 (.node o356 (lf o7) .nil) (.node o484 (lf o8) .nil)))) (.node o52 (.node o84 (.node o148 (.node o7 (lf o532) (lf o788)) (.node o404 (lf o8) .nil)) (.node o212 (.node o7 (lf o8) (lf o852)) (.node o7 (lf o7) .nil))) (.node o116 (.node o7 (.node o308 (lf o7) (lf o820)) (.node o7 (lf o7) .nil)) (.node o7 (.node o7 (lf o628) .nil) (.node o500 (lf o7) .nil))))) (.node o28 (.node o44 (.node o7 (.node o7 (.node (o268 P) (lf o524) (lf o780)) (.node o396 (lf o7) .nil)) (.node o7 (.node (o332 P) (lf o7) (lf o844)) (.node o460 (lf o716) .nil))) (.node o108 (.node o7 (.node o300 (lf o556) (lf o8)) (.node o428 (lf o7) .nil)) (.node o236 (.node o364 (lf o620) .nil) (.node o7 (lf o748) .nil)))) (.node o60 (.node o35 (.node o156 (.node o284 (lf o7) (lf o7)) (.node o7 (lf o8) .nil)) (.node o220 (.node o348 (lf o604) .nil) (.node o8 (lf o7) .nil))) (.node o124 (.node o8 (.node o7 (lf o572) (lf o828)) (.node o444 (lf o700) .nil)) (.node o7 (.node o8 (lf o636) .nil) (.node o508 (lf o764) .nil))))))) (.node o6 (.node o10 (.node o7 (.node o34 (.node o66 (.node o7 (.node o258 (lf o514) (lf o7)) (.node o386 (lf o642) .nil)) (.node o194 (.node o322 (lf o578) (lf o8)) (.node o7 (lf o7) .nil))) (.node o98 (.node o162 (.node o7 (lf o546) (lf o802)) (.node o418 (lf o7) .nil)) (.node o226 (.node o7 (lf o8) .nil) (.node o7 (lf o738) .nil)))) (.node (o50 P) (.node o82 (.node o146 (.node o8 (lf o8) (lf o786)) (.node o402 (lf o658) .nil)) (.node o210 (.node o8 (lf o594) (lf o850)) (.node o466 (lf o722) .nil))) (.node o7 (.node o178 (.node o306 (lf o8) (lf o7)) (.node o8 (lf o8) .nil)) (.node o242 (.node o370 (lf o7) .nil) (.node o498 (lf o8) .nil))))) (.node o8 (.node o7 (.node o23 (.node o8 (.node o7 (lf o7) (lf o7)) (.node o7 (lf o650) .nil)) (.node o23 (.node o7 (lf o586) (lf o842)) (.node o458 (lf o714) .nil))) (.node o106 (.node o170 (.node o7 (lf o7) (lf o810)) (.node o7 (lf o8) .nil)) (.node o234 (.node o362 (lf o618) .nil) (.node o8 (lf o7) .nil)))) (.node o58 (.node o90 (.node o7 (.node o282 (lf o538) (lf o794)) (.node o410 (lf o666) .nil)) (.node o218 (.node o346 (lf o7) .nil) (.node o474 (lf o730) .nil))) (.node o122 (.node o186 (.node o314 (lf o8) (lf o8)) (.node o442 (lf o698) .nil)) (.node o250 (.node o378 (lf o634) .nil) (.node o506 (lf o762) .nil)))))) (.node o14 (.node o22 (.node o7 (.node o70 (.node o134 (.node o262 (lf o7) (lf o774)) (.node o390 (lf (o646 P)) .nil)) (.node o198 (.node o326 (lf o8) (lf o838)) (.node o7 (lf o7) .nil))) (.node o7 (.node (o166 P) (.node o179 (lf o7) (lf o806)) (.node o7 (lf o678) .nil)) (.node o7 (.node o7 (lf o614) .nil) (.node o486 (lf o7) .nil)))) (.node o35 (.node o86 (.node o150 (.node o278 (lf o179) (lf o8)) (.node o8 (lf o7) .nil)) (.node o214 (.node o342 (lf o7) .nil) (.node o470 (lf o726) .nil))) (.node o7 (.node o182 (.node o23 (lf o566) (lf o822)) (.node o438 (lf o694) .nil)) (.node (o246 P) (.node o374 (lf o7) .nil) (.node o502 (lf o758) .nil))))) (.node (o30 P) (.node o46 (.node o78 (.node o142 (.node o270 (lf o526) (lf o7)) (.node o7 (lf o654) .nil)) (.node o206 (.node o334 (lf o590) (lf o846)) (.node o8 (lf o8) .nil))) (.node o110 (.node (o174 P) (.node o302 (lf o558) (lf o7)) (.node o430 (lf o686) .nil)) (.node (o238 P) (.node o8 (lf o622) .nil) (.node o494 (lf o750) .nil)))) (.node o8 (.node (o94 P) (.node o7 (.node o286 (lf o542) (lf o798)) (.node o414 (lf o7) .nil)) (.node o7 (.node o350 (lf o606) .nil) (.node o7 (lf o734) .nil))) (.node (o126 P) (.node o7 (.node o318 (lf o7) (lf o830)) (.node o446 (lf o702) .nil)) (.node o254 (.node o382 (lf (o638 P)) .nil) (.node o510 (lf o766) .nil)))))))))
noncomputable def S57 (w : World) (os : OsState) : SharedT := ⟨t57 w.params, (nat_lit 854), {}, #[], {}, (nat_lit 1407), os⟩
noncomputable def p57 : Pos := ⟨(nat_lit 349), (nat_lit 0), (nat_lit 652), (nat_lit 20)⟩
noncomputable def t76 (P : Params) : BT := (.node (o0 P) (.node (o1 P) (.node (o3 P) (.node o7 (.node o7 (.node o31 (.node o63 (.node o127 (.node o7 (lf o511) (lf o7)) (.node o383 (lf o639) (lf o895))) (.node o191 (.node o7 (lf o8) (lf o831)) (.node o7 (lf o7) .nil))) (.node o7 (.node o8 (.node o7 (lf o7) (lf o7)) (.node o7 (lf o671) (lf o927))) (.node o23 (.node o7 (lf o607) (lf o863)) (.node o479 (lf o7) .nil)))) (.node o47 (.node o79 (.node o143 (.node o271 (lf o527) (lf o8)) (.node o8 (lf o7) (lf o7))) (.node o207 (.node o335 (lf o7) (lf o847)) (.node o463 (lf o719) .nil))) (.node o35 (.node o7 (.node (o303 P) (lf o559) (lf o815)) (.node o431 (lf o687) (lf o943))) (.node o239 (.node o367 (lf o7) (lf o879)) (.node o495 (lf o751) .nil))))) (.node o23 (.node o39 (.node o71 (.node o135 (.node o263 (lf o519) (lf o7)) (.node o7 (lf o7) (lf o903))) (.node o199 (.node o327 (lf o583) (lf o839)) (.node o23 (lf o8) .nil))) (.node o103 (.node o167 (.node o7 (lf o551) (lf o7)) (.node o423 (lf o679) (lf o7))) (.node o8 (.node o8 (lf o615) (lf o871)) (.node o487 (lf o743) .nil)))) (.node o23 (.node o87 (.node o7 (.node o279 (lf o7) (lf o791)) (.node o407 (lf o663) (lf o8))) (.node o215 (.node o343 (lf o599) (lf o8)) (.node o7 (lf o7) .nil))) (.node o8 (.node o7 (.node (o311 P) (lf o567) (lf o823)) (.node o439 (lf o695) (lf o951))) (.node o7 (.node o7 (lf o8) (lf o887)) (.node o7 (lf o759) .nil)))))) (.node o7 (.node o19 (.node o35 (.node o67 (.node o23 (.node o259 (lf o7) (lf o771)) (.node o7 (lf o643) (lf o899))) (.node (o195 P) (.node o323 (lf o579) (lf o835)) (.node o451 (lf o707) .nil))) (.node o7 (.node o163 (.node o291 (lf o7) (lf o179)) (.node o7 (lf o8) (lf o931))) (.node o227 (.node o355 (lf o611) (lf o867)) (.node o8 (lf o7) .nil)))) (.node o51 (.node o7 (.node o147 (.node o275 (lf o531) (lf o787)) (.node o403 (lf o7) (lf o915))) (.node o7 (.node o339 (lf o7) (lf o851)) (.node o467 (lf o723) .nil))) (.node o115 (.node o179 (.node o307 (lf o563) (lf o8)) (.node o435 (lf o691) (lf o8))) (.node o243 (.node o371 (lf o627) (lf o883)) (.node o7 (lf o755) .nil))))) (.node o27 (.node o8 (.node (o75 P) (.node o139 (.node o23 (lf o8) (lf o779)) (.node o395 (lf o651) (lf o7))) (.node (o203 P) (.node o23 (lf o587) (lf o7)) (.node o459 (lf o715) .nil))) (.node (o107 P) (.node o171 (.node o299 (lf o8) (lf o7)) (.node o8 (lf o683) (lf o7))) (.node o235 (.node o363 (lf o7) (lf o875)) (.node o491 (lf o8) .nil)))) (.node o59 (.node o91 (.node o155 (.node o283 (lf o539) (lf o795)) (.node o411 (lf o7) (lf o923))) (.node o219 (.node o347 (lf o8) (lf o859)) (.node o7 (lf o179) .nil))) (.node o123 (.node o7 (.node o315 (lf o571) (lf o827)) (.node o7 (lf o7) (lf o955))) (.node o179 (.node o7 (lf o635) (lf o891)) (.node o507 (lf o7) .nil))))))) (.node o5 (.node o9 (.node o17 (.node o33 (.node o65 (.node o129 (.node o257 (lf o513) (lf o769)) (.node o8 (lf o641) (lf o7))) (.node o193 (.node o321 (lf o7) (lf o7)) (.node o449 (lf o705) .nil))) (.node o97 (.node o7 (.node (o289 P) (lf o545) (lf o801)) (.node o417 (lf o673) (lf o929))) (.node o7 (.node o7 (lf o7) (lf o865)) (.node o481 (lf o737) .nil)))) (.node o49 (.node o8 (.node (o145 P) (.node o7 (lf o7) (lf o7)) (.node o7 (lf o657) (lf o913))) (.node o8 (.node o7 (lf o593) (lf o849)) (.node o465 (lf o721) .nil))) (.node (o113 P) (.node o177 (.node o305 (lf o7) (lf o817)) (.node o7 (lf o7) (lf o945))) (.node o241 (.node o369 (lf (o625 P)) (lf o8)) (.node o8 (lf o7) .nil))))) (.node o7 (.node o41 (.node o35 (.node o7 (.node o265 (lf o521) (lf o777)) (.node o393 (lf o649) (lf o8))) (.node o7 (.node o329 (lf o585) (lf o8)) (.node o7 (lf o7) .nil))) (.node o105 (.node o169 (.node o297 (lf o553) (lf o809)) (.node o425 (lf o7) (lf o937))) (.node o7 (.node o7 (lf o8) (lf o7)) (.node o7 (lf o745) .nil)))) (.node o7 (.node o89 (.node (o153 P) (.node (o281 P) (lf o537) (lf o793)) (.node o409 (lf o665) (lf o7))) (.node o217 (.node (o345 P) (lf o601) (lf o7)) (.node o473 (lf o729) .nil))) (.node o7 (.node o185 (.node o313 (lf o7) (lf o7)) (.node o8 (lf o8) (lf o7))) (.node o249 (.node o377 (lf o7) (lf o889)) (.node o505 (lf o8) .nil)))))) (.node o13 (.node o21 (.node (o37 P) (.node (o69 P) (.node o7 (.node o261 (lf o517) (lf o773)) (.node o389 (lf o23) (lf o901))) (.node o197 (.node o325 (lf o7) (lf o837)) (.node o453 (lf o709) .nil))) (.node o101 (.node o165 (.node o293 (lf o549) (lf o8)) (.node o421 (lf o7) (lf o8))) (.node o179 (.node o357 (lf o613) (lf o8)) (.node o7 (lf o741) .nil)))) (.node o53 (.node o85 (.node o149 (.node o277 (lf o533) (lf o7)) (.node o7 (lf o661) (lf o917))) (.node o213 (.node o341 (lf o597) (lf o853)) (.node o8 (lf o8) .nil))) (.node o117 (.node o8 (.node o7 (lf o565) (lf o7)) (.node o437 (lf o693) (lf o7))) (.node o23 (.node o8 (lf o629) (lf o7)) (.node o501 (lf o757) .nil))))) (.node o7 (.node o7 (.node o77 (.node o141 (.node o7 (lf o7) (lf o781)) (.node o397 (lf o8) (lf o909))) (.node o205 (.node o7 (lf o8) (lf o845)) (.node o7 (lf o7) .nil))) (.node o109 (.node o23 (.node o301 (lf o7) (lf o813)) (.node o7 (lf o685) (lf o941))) (.node o237 (.node o7 (lf o621) (lf o877)) (.node o493 (lf o7) .nil)))) (.node o7 (.node o23 (.node o157 (.node o285 (lf o8) (lf o8)) (.node o8 (lf o669) (lf o7))) (.node o221 (.node o349 (lf o7) (lf o7)) (.node o477 (lf o8) .nil))) (.node o125 (.node o189 (.node o8 (lf o573) (lf o829)) (.node o445 (lf o701) (lf o957))) (.node o8 (.node o381 (lf o637) (lf o8)) (.node (o509 P) (lf o765) .nil)))))))) (.node (o2 P) (.node o4 (.node o8 (.node o8 (.node o32 (.node o7 (.node o128 (.node o256 (lf o512) (lf o8)) (.node o7 (lf o640) (lf o896))) (.node o192 (.node o320 (lf o576) (lf o179)) (.node o8 (lf o8) .nil))) (.node o96 (.node o160 (.node o23 (lf o544) (lf o800)) (.node o416 (lf o672) (lf o7))) (.node (o224 P) (.node o8 (lf o608) (lf o7)) (.node o480 (lf o736) .nil)))) (.node o48 (.node o7 (.node o144 (.node o272 (lf o528) (lf o784)) (.node o400 (lf o656) (lf o8))) (.node o7 (.node o336 (lf o592) (lf (o848 P))) (.node o7 (lf o7) .nil))) (.node o23 (.node o176 (.node o304 (lf o560) (lf o816)) (.node o432 (lf o179) (lf o944))) (.node o240 (.node o7 (lf o23) (lf o7)) (.node o7 (lf o752) .nil))))) (.node (o24 P) (.node o40 (.node o72 (.node o136 (.node o264 (lf o520) (lf o8)) (.node o8 (lf o648) (lf o7))) (.node o200 (.node o328 (lf o7) (lf o7)) (.node (o456 P) (lf o712) .nil))) (.node o104 (.node o168 (.node o8 (lf o552) (lf o808)) (.node o424 (lf o680) (lf o936))) (.node o232 (.node o7 (lf o7) (lf o872)) (.node o488 (lf o744) .nil)))) (.node (o56 P) (.node (o88 P) (.node o23 (.node o280 (lf o8) (lf o7)) (.node o7 (lf o664) (lf o920))) (.node (o216 P) (.node o344 (lf o600) (lf o856)) (.node o472 (lf o728) .nil))) (.node o120 (.node o184 (.node o7 (lf o179) (lf o824)) (.node o7 (lf o7) (lf o952))) (.node o248 (.node o376 (lf o632) (lf o7)) (.node o8 (lf o7) .nil)))))) (.node o12 (.node o20 (.node o23 (.node o68 (.node (o132 P) (.node (o260 P) (lf o8) (lf o772)) (.node o388 (lf o7) (lf o7))) (.node o196 (.node (o324 P) (lf o580) (lf o7)) (.node o452 (lf o708) .nil))) (.node o8 (.node o164 (.node o292 (lf o8) (lf o7)) (.node o8 (lf o676) (lf o7))) (.node o228 (.node o356 (lf o7) (lf o7)) (.node o484 (lf o8) .nil)))) (.node o52 (.node o84 (.node o148 (.node o7 (lf o532) (lf o788)) (.node o404 (lf o8) (lf o916))) (.node o212 (.node o7 (lf o8) (lf o852)) (.node o7 (lf o7) .nil))) (.node o116 (.node o7 (.node o308 (lf o7) (lf o820)) (.node o7 (lf o7) (lf o948))) (.node o7 (.node o7 (lf o628) (lf o884)) (.node o500 (lf o7) .nil))))) (.node o28 (.node o44 (.node o7 (.node o7 (.node (o268 P) (lf o524) (lf o780)) (.node o396 (lf o7) (lf o908))) (.node o7 (.node (o332 P) (lf o7) (lf o844)) (.node o460 (lf o716) .nil))) (.node o108 (.node o7 (.node o300 (lf o556) (lf o8)) (.node o428 (lf o7) (lf o8))) (.node o236 (.node o364 (lf o620) (lf o7)) (.node o7 (lf o748) .nil)))) (.node o60 (.node o35 (.node o156 (.node o284 (lf o7) (lf o7)) (.node o7 (lf o8) (lf o924))) (.node o220 (.node o348 (lf o604) (lf o860)) (.node o8 (lf o7) .nil))) (.node o124 (.node o8 (.node o7 (lf o572) (lf o828)) (.node o444 (lf o700) (lf o956))) (.node o7 (.node o8 (lf o636) (lf o7)) (.node o508 (lf o764) .nil))))))) (.node o6 (.node o10 (.node o7 (.node o34 (.node o66 (.node o7 (.node o258 (lf o514) (lf o7)) (.node o386 (lf o642) (lf o8))) (.node o194 (.node o322 (lf o578) (lf o8)) (.node o7 (lf o7) .nil))) (.node o98 (.node o162 (.node o7 (lf o546) (lf o802)) (.node o418 (lf o7) (lf o930))) (.node o226 (.node o7 (lf o8) (lf o866)) (.node o7 (lf o738) .nil)))) (.node (o50 P) (.node o82 (.node o146 (.node o8 (lf o8) (lf o786)) (.node o402 (lf o658) (lf o7))) (.node o210 (.node o8 (lf o594) (lf o850)) (.node o466 (lf o722) .nil))) (.node o7 (.node o178 (.node o306 (lf o8) (lf o7)) (.node o8 (lf o8) (lf o7))) (.node o242 (.node o370 (lf o7) (lf o882)) (.node o498 (lf o8) .nil))))) (.node o8 (.node o7 (.node o23 (.node o8 (.node o7 (lf o7) (lf o7)) (.node o7 (lf o650) (lf o906))) (.node o23 (.node o7 (lf o586) (lf o842)) (.node o458 (lf o714) .nil))) (.node o106 (.node o170 (.node o7 (lf o7) (lf o810)) (.node o7 (lf o8) (lf o938))) (.node o234 (.node o362 (lf o618) (lf o8)) (.node o8 (lf o7) .nil)))) (.node o58 (.node o90 (.node o7 (.node o282 (lf o538) (lf o794)) (.node o410 (lf o666) (lf o922))) (.node o218 (.node o346 (lf o7) (lf o858)) (.node o474 (lf o730) .nil))) (.node o122 (.node o186 (.node o314 (lf o8) (lf o8)) (.node o442 (lf o698) (lf o8))) (.node o250 (.node o378 (lf o634) (lf o890)) (.node o506 (lf o762) .nil)))))) (.node o14 (.node o22 (.node o7 (.node o70 (.node o134 (.node o262 (lf o7) (lf o774)) (.node o390 (lf (o646 P)) (lf o902))) (.node o198 (.node o326 (lf o8) (lf o838)) (.node o7 (lf o7) .nil))) (.node o7 (.node (o166 P) (.node o179 (lf o7) (lf o806)) (.node o7 (lf o678) (lf o934))) (.node o7 (.node o7 (lf o614) (lf o870)) (.node o486 (lf o7) .nil)))) (.node o35 (.node o86 (.node o150 (.node o278 (lf o179) (lf o8)) (.node o8 (lf o7) (lf o7))) (.node o214 (.node o342 (lf o7) (lf o7)) (.node o470 (lf o726) .nil))) (.node o7 (.node o182 (.node o23 (lf o566) (lf o822)) (.node o438 (lf o694) (lf o950))) (.node (o246 P) (.node o374 (lf o7) (lf o8)) (.node o502 (lf o758) .nil))))) (.node (o30 P) (.node o46 (.node o78 (.node o142 (.node o270 (lf o526) (lf o7)) (.node o7 (lf o654) (lf o910))) (.node o206 (.node o334 (lf o590) (lf o846)) (.node o8 (lf o8) .nil))) (.node o110 (.node (o174 P) (.node o302 (lf o558) (lf o7)) (.node o430 (lf o686) (lf o7))) (.node (o238 P) (.node o8 (lf o622) (lf o878)) (.node o494 (lf o750) .nil)))) (.node o8 (.node (o94 P) (.node o7 (.node o286 (lf o542) (lf o798)) (.node o414 (lf o7) (lf o8))) (.node o7 (.node o350 (lf o606) (lf o8)) (.node o7 (lf o734) .nil))) (.node (o126 P) (.node o7 (.node o318 (lf o7) (lf o830)) (.node o446 (lf o702) .nil)) (.node o254 (.node o382 (lf (o638 P)) (lf o894)) (.node o510 (lf o766) .nil)))))))))
noncomputable def S76 (w : World) (os : OsState) : SharedT := ⟨t76 w.params, (nat_lit 958), {}, #[], {}, (nat_lit 1544), os⟩
noncomputable def p76 : Pos := ⟨(nat_lit 735), (nat_lit 0), (nat_lit 783), (nat_lit 15)⟩
noncomputable def tz (P : Params) : BT := (.node (o0 P) (.node (o1 P) (.node (o3_0 P) (lf o7) .nil) (.node o5 (lf o9) .nil)) (.node (o2_0 P) (.node o4 (lf o8) .nil) (.node o6 (lf o10) .nil)))
noncomputable def loose : List Str := [(u (nat_lit 465674794847)), (u (nat_lit 2110959431130824470339)), (u (nat_lit 30506446003529042)), (u (nat_lit 125822987027794)), (u (nat_lit 31071095449275572413736511820)), (u (nat_lit 33542168233125172940205483346)), (u (nat_lit 511812869768145372409676)), (u (nat_lit 1819047246)), (u (nat_lit 29113321788762445)), (u (nat_lit 125823019607382)), (u (nat_lit 119225648511315)), (u (nat_lit 1819042115)), (u (nat_lit 28554821421198403)), (u (nat_lit 31078196194145602)), (u (nat_lit 140756726394926624662777413)), (u (nat_lit 28555869292556880)), (u (nat_lit 1937010500)), (u (nat_lit 1819047278)), (u (nat_lit 29113321788762477)), (u (nat_lit 2110239401768200005731)), (u (nat_lit 431198396782)), (u (nat_lit 123836377112144154064413040)), (u (nat_lit 435610937463)), (u (nat_lit 1734437990)), (u (nat_lit 1954047348)), (u (nat_lit 119225648511347)), (u (nat_lit 28832903256105315)), (u (nat_lit 114849160783212)), (u (nat_lit 133507968132003860941075305)), (u (nat_lit 435710683251)), (u (nat_lit 122641728202129683212365676)), (u (nat_lit 123649615949676)), (u (nat_lit 7453010330410836301)), (u (nat_lit 36045811343340596304970870628)), (u (nat_lit 9227727703896348101202602848865)), (u (nat_lit 140803950559924204434976373)), (u (nat_lit 139505445986209994665910637)), (u (nat_lit 31397510328417944283963617124)), (u (nat_lit 2361506002213494275268710822670178)), (u (nat_lit 9224632821146462012768653700964)), (u (nat_lit 537045991524533412672701041947862372)), (u (nat_lit 35721800206462927246776494434)), (u (nat_lit 549795218527000316572521)), (u (nat_lit 154763657361063560824011076847971559789)), (u (nat_lit 28832903374073700)), (u (nat_lit 8032801207806007333036490716009)), (u (nat_lit 478792262542605837168484)), (u (nat_lit 562744125738994978909459153499943785)), (u (nat_lit 8035896067037232874723309745001)), (u (nat_lit 435626799686)), (u (nat_lit 2110959975595354715717)), (u (nat_lit 7957684015797789032)), (u (nat_lit 8247344779184334183)), (u (nat_lit 7381223263511077230)), (u (nat_lit 112628528408932)), (u (nat_lit 123836377036150261087562084)), (u (nat_lit 1684366702)), (u (nat_lit 483735847805107200749414)), (u (nat_lit 521515500515640081801075)), (u (nat_lit 1907970656748337717107)), (u (nat_lit 1870858745032837524575)), (u (nat_lit 7234029357279308895)), (u (nat_lit 521404241352874967264351)), (u (nat_lit 1853136508753088179295)), (u (nat_lit 521331171860693811031135)), (u (nat_lit 549665232268924605787231))]
end
end Hd
end Mine
end

section
set_option maxRecDepth 100000
namespace Mine
namespace Hd
open PySem PySem.W PySem.W.X PySem.Calls PyProof.Rows PySem.Challenge
section
noncomputable def H0 (P : Params) : Heap := absHeap (tz P) (nat_lit 11) {}
theorem opened (w : World) : importEnds treeTable (opening pw_pq1414_01) w (nat_lit 391) (start (opening pw_pq1414_01)).1 (start (opening pw_pq1414_01)).2 = some ⟨H0 w.params, #[], {}, (nat_lit 181), (start (opening pw_pq1414_01)).1.os⟩ := by kernel_rfl
end
end Hd
end Mine
end

section
set_option maxRecDepth 100000
namespace Mine
namespace Hd
open PySem PySem.W PySem.W.X PySem.Calls PyProof.Rows PySem.Challenge
section
noncomputable def env : Env := { scope := pw_pq1414_01.main.scope, locals := mainNs, globals := mainNs, cells := [], code := .ref (nat_lit 13), frame := some (nat_lit 14) }
noncomputable def cE : Code := .body bE env
noncomputable def pz : Pos := ⟨nat_lit 0, nat_lit 0, nat_lit 0, nat_lit 0⟩
noncomputable def ann : Option Value := some (.ref (nat_lit 6))
noncomputable def sts (j m : Nat) : List Stmt := (bE.drop j).take m
theorem seg0 (w : World) : (fun os => segRunT treeTable pw_pq1414_01 w (nat_lit 11) ann (nat_lit 1) (nat_lit 974) (S0 w os) (piecesOf (sts (nat_lit 0) (nat_lit 6)) env cE p0 [topFrame pz])) = fun os => some (.next, S6 w os, cE, p6) := by kernel_rfl
theorem seg6 (w : World) : (fun os => segRunT treeTable pw_pq1414_01 w (nat_lit 11) ann (nat_lit 1) (nat_lit 948) (S6 w os) (piecesOf (sts (nat_lit 6) (nat_lit 5)) env cE p6 [topFrame pz])) = fun os => some (.next, S11 w os, cE, p11) := by kernel_rfl
theorem seg11 (w : World) : (fun os => segRunT treeTable pw_pq1414_01 w (nat_lit 11) ann (nat_lit 1) (nat_lit 944) (S11 w os) (piecesOf (sts (nat_lit 11) (nat_lit 4)) env cE p11 [topFrame pz])) = fun os => some (.next, S15 w os, cE, p15) := by kernel_rfl
theorem seg15 (w : World) : (fun os => segRunT treeTable pw_pq1414_01 w (nat_lit 11) ann (nat_lit 1) (nat_lit 1000) (S15 w os) (piecesOf (sts (nat_lit 15) (nat_lit 7)) env cE p15 [topFrame pz])) = fun os => some (.next, S22 w os, cE, p22) := by kernel_rfl
theorem seg22 (w : World) : (fun os => segRunT treeTable pw_pq1414_01 w (nat_lit 11) ann (nat_lit 1) (nat_lit 974) (S22 w os) (piecesOf (sts (nat_lit 22) (nat_lit 22)) env cE p22 [topFrame pz])) = fun os => some (.next, S44 w os, cE, p44) := by kernel_rfl
theorem seg44 (w : World) : (fun os => segRunT treeTable pw_pq1414_01 w (nat_lit 11) ann (nat_lit 1) (nat_lit 549) (S44 w os) (piecesOf (sts (nat_lit 44) (nat_lit 12)) env cE p44 [topFrame pz])) = fun os => some (.next, S56 w os, cE, p56) := by kernel_rfl
theorem seg56 (w : World) : (fun os => segRunT treeTable pw_pq1414_01 w (nat_lit 11) ann (nat_lit 1) (nat_lit 1164) (S56 w os) (piecesOf (sts (nat_lit 56) (nat_lit 1)) env cE p56 [topFrame pz])) = fun os => some (.next, S57 w os, cE, p57) := by kernel_rfl
theorem seg57 (w : World) : (fun os => segRunT treeTable pw_pq1414_01 w (nat_lit 11) ann (nat_lit 1) (nat_lit 503) (S57 w os) (piecesOf (sts (nat_lit 57) (nat_lit 19)) env cE p57 [topFrame pz])) = fun os => some (.next, S76 w os, cE, p76) := by kernel_rfl
end
end Hd
end Mine
end

section
set_option maxRecDepth 100000
namespace Mine
namespace Hd
open PySem PySem.W PySem.W.X PySem.Calls PyProof.Rows PySem.Challenge
section
noncomputable def Hf (P : Params) : Heap := absHeap (t76 P) (nat_lit 958) {}
noncomputable def M : Nat := 12 + (1 + (974 + (948 + (944 + (1000 + (974 + (549 + (1164 + (503 + 2)))))))))
theorem fenced (w : World) : (fun os => (fenceModules? pw_pq1414_01 ⟨H0 w.params, #[], {}, nat_lit 181, os⟩).map (fun s => (s.heap, s.gens, s.drawn, s.toks))) = fun _ => some (H0 w.params, #[], {}, nat_lit 181) := by kernel_rfl
theorem size0 (w : World) : ((H0 w.params).isNs mainGlobals && (#[] : Array GenState).size == 0, (H0 w.params).objs.size, (H0 w.params).nsMap mainGlobals "__annotations__") = (true, nat_lit 11, ann) := by kernel_rfl
theorem pre0 (w : World) : (fun os => topGo treeTable pw_pq1414_01 w (nat_lit 11) ann (nat_lit 12) ⟨H0 w.params, #[], {}, nat_lit 181, os⟩ (topStub pw_pq1414_01)) = fun os => some ((S0 w os).abs, ⟨denote treeTable cE, cE, p0, [topFrame pz]⟩) := by kernel_rfl
theorem block0 (w : World) : (fun os => segRun treeTable pw_pq1414_01 w (nat_lit 11) ann (nat_lit 1) (nat_lit 1) (S0 w os).abs (blockOf bE env cE p0 [topFrame pz])) = fun os => some (.next, (S0 w os).abs, cE, p0) := by kernel_rfl
theorem fin0 (w : World) : (fun os => topRun treeTable pw_pq1414_01 w (nat_lit 11) ann (nat_lit 2) (S76 w os).abs ⟨doneF .next, cE, p76, [topFrame pz]⟩) = fun os => some (S76 w os).abs := by kernel_rfl
theorem len0 : bE.drop 76 = [] := by kernel_rfl
theorem piece_at {tb : String → Option Builtin} {p : Program} {w : World} {n₀ : Nat} {an : Option Value} {ev : Env} {q : Pos} {n N j m : Nat} {s s' : SharedT} {r : Shared} {b : List Stmt} {c : Code} {pos p' : Pos} (h : segRunT tb p w n₀ an 1 n s (piecesOf ((b.drop j).take m) ev c pos [topFrame q]) = some (.next, s', c, p'))
    (k : topRun tb p w n₀ an N s'.abs (restOf (b.drop (j + m)) ev c p' [topFrame q]) = some r) : topRun tb p w n₀ an (n + N) s.abs (restOf (b.drop j) ev c pos [topFrame q]) = some r := by
  have e : b.drop j = (b.drop j).take m ++ b.drop (j + m) := by rw [← List.drop_drop, List.take_append_drop]
  rw [e]
  exact piece_app (segRun_of h) k
theorem ran (w : World) (os : OsState) : topRun treeTable pw_pq1414_01 w (nat_lit 11) ann M ⟨H0 w.params, #[], {}, nat_lit 181, os⟩ (topStub pw_pq1414_01) = some ⟨Hf w.params, #[], {}, nat_lit 1544, os⟩ := by
  have k5 : topRun treeTable pw_pq1414_01 w 11 ann 2 (S76 w os).abs (restOf (bE.drop 76) env cE p76 [topFrame pz]) = some (S76 w os).abs := by
    rw [len0]; exact piece_nil (congrFun (fin0 w) os)
  have r57 := piece_at (j := 57) (m := 19) (congrFun (seg57 w) os) k5
  have r56 := piece_at (j := 56) (m := 1) (congrFun (seg56 w) os) r57
  have r44 := piece_at (j := 44) (m := 12) (congrFun (seg44 w) os) r56
  have r22 := piece_at (j := 22) (m := 22) (congrFun (seg22 w) os) r44
  have r15 := piece_at (j := 15) (m := 7) (congrFun (seg15 w) os) r22
  have r11 := piece_at (j := 11) (m := 4) (congrFun (seg11 w) os) r15
  have r6 := piece_at (j := 6) (m := 5) (congrFun (seg6 w) os) r11
  have r0 := piece_at (j := 0) (m := 6) (congrFun (seg0 w) os) r6
  exact go_top (congrFun (pre0 w) os) (piece_block (congrFun (block0 w) os) r0)
end
end Hd
end Mine
end

section
set_option maxRecDepth 100000
namespace Mine
namespace Hd
open PySem PySem.W PySem.W.X PySem.Calls PyProof.Rows PySem.Challenge
section
noncomputable def q : Program := view pw_pq1414_01 [75]
noncomputable def Xt (s : Shared) : Bool := xlAt q [] s
noncomputable def Yf (s : Shared) : Heap × Nat := (s.heap, s.toks)
noncomputable def Ya (w : World) : Heap × Nat := (Hf w.params, nat_lit 1544)
theorem look1 (w : World) : (fun os : OsState => ((staticsOk (importedModules pw_pq1414_01.main.body) (H0 w.params) (Hf w.params) && namesBound pw_pq1414_01 (Hf w.params) && gensDone ⟨Hf w.params, #[], {}, nat_lit 1544, os⟩ && laidKept (H0 w.params) (Hf w.params)))) = fun _ => true := by kernel_rfl
theorem look2 (w : World) : (fun os : OsState => openSeen q loose (importedModules pw_pq1414_01.main.body) Xt true ⟨Hf w.params, #[], {}, nat_lit 1544, os⟩) = fun _ => openGood q loose := by kernel_rfl
theorem left0 : LeftO pw_pq1414_01 q loose Xt Yf Ya 14222 := by
  refine LeftO.of_pieces (H₀ := H0) (H₁ := Hf) (gs₀ := #[]) (gs₁ := #[]) (d₀ := {}) (d₁ := {}) (k₀ := nat_lit 181) (k₁ := nat_lit 1544) (m₀ := nat_lit 11) (ann := ann) (M := M)
    (open_cut (M := nat_lit 391) (He := H0) (ge := #[]) (de := {}) (ke := nat_lit 181) opened (by decide +kernel) fenced) size0 ran (by decide +kernel) (fun w => ?_)
  funext os
  exact Prod.ext (congrFun (look1 w) os) (Prod.ext (congrFun (look2 w) os) rfl)
end
end Hd
end Mine
end

section
set_option maxRecDepth 100000
set_option Elab.async false
namespace Mine
namespace Hd
open PySem PySem.W PySem.W.X PySem.Calls PyProof.Rows PySem.Challenge
set_option maxHeartbeats 400000000 in
theorem bare1 : readsOut rw_pq1414_01.row.prog rw_pq1414_01.row.prog.main.body "vars" = false := by decide +kernel
set_option maxHeartbeats 400000000 in
theorem bare2 : readsOut rw_pq1414_01.row.prog rw_pq1414_01.row.prog.main.body "dir" = false := by decide +kernel
set_option maxHeartbeats 400000000 in
theorem bare3 : readsOut rw_pq1414_01.row.prog rw_pq1414_01.row.prog.main.body "locals" = false := by decide +kernel
theorem bare0 : (["vars", "dir", "locals"] : List Str).filter (readsOut rw_pq1414_01.row.prog rw_pq1414_01.row.prog.main.body) = [] := by
  rw [List.filter_cons_of_neg (by rw [bare1]; decide), List.filter_cons_of_neg (by rw [bare2]; decide), List.filter_cons_of_neg (by rw [bare3]; decide), List.filter_nil]
set_option maxHeartbeats 400000000 in
theorem said : OpenLaw.wellSaid rw_pq1414_01 = true := by
  unfold OpenLaw.wellSaid OpenRow.wellSaid OpenRow.partSaid looksOpen
  rw [bare0]
  repeat' with_reducible refine look_both ?_ ?_
  all_goals decide +kernel
set_option maxHeartbeats 400000000 in
theorem oks : (chainsOk q && opensWell pw_pq1414_01 && (frees (OpenLaw.row rw_pq1414_01).toRowW && (OpenLaw.row rw_pq1414_01).within.isEmpty)) = true := by decide +kernel
end Hd
end Mine
end

section
set_option maxRecDepth 100000
namespace Mine
namespace Hd
open PySem PySem.W PySem.W.X PySem.Calls PyProof.Rows PySem.Challenge
noncomputable def toKT : BT → KT
  | .nil => .nil
  | .node v l r => .node (some v) (toKT l) (toKT r)
noncomputable def kl : BT → Nat → Nat → Frag → Frag
  | .nil, _, _, acc => acc
  | .node v l r, s, b, acc => (b, v) :: kl l (2 * s) (s + b) (kl r (2 * s) (2 * s + b) acc)
noncomputable def okT (n : Nat) : BT → Nat → Nat → Bool
  | .nil, _, _ => true
  | .node v l r, s, b => Nat.blt b n && (alive v).isSome && okT n l (2 * s) (s + b) && okT n r (2 * s) (2 * s + b)
theorem alive_self {v : Obj} (h : (alive v).isSome = true) : alive v = some v := by
  obtain ⟨c, d, dt, sl⟩ := v
  cases dt <;> first | rfl | cases h
theorem holdsAbs (t0 : BT) (n : Nat) (life : Life) : ∀ (t : BT) (s b : Nat), (∀ i o, t.get i = some o → t0.get (s * i + b) = some o) → okT n t s b = true → KT.Holds (absHeap t0 n life) s b (toKT t)
  | .nil, _, _, _, _ => trivial
  | .node v l r, s, b, H, k => by
    unfold okT at k
    simp only [Bool.and_eq_true] at k
    obtain ⟨⟨⟨k1, k2⟩, k3⟩, k4⟩ := k
    refine ⟨fun o e => ?_, holdsAbs t0 n life l _ _ (fun i o e => ?_) k3, holdsAbs t0 n life r _ _ (fun i o e => ?_) k4⟩
    · cases e
      have g := H 0 v (by rw [BT.get_node]; rfl)
      rw [Nat.mul_zero, Nat.zero_add] at g
      rw [abs_get (Nat.le_of_ble_eq_true k1) g, alive_self k2]
    · have g := H (2 * i + 1) o (by
        rw [BT.get_node, if_neg (by omega), if_pos (by omega), show (2 * i + 1) / 2 = i by omega]; exact e)
      rw [← g]; congr 1
      rw [Nat.mul_add, Nat.mul_one, ← Nat.mul_assoc, Nat.mul_comm s 2, Nat.add_assoc]
    · have g := H (2 * i + 2) o (by
        rw [BT.get_node, if_neg (by omega), if_neg (by omega), show (2 * i + 2) / 2 - 1 = i by omega]; exact e)
      rw [← g]; congr 1
      rw [Nat.mul_add, ← Nat.mul_assoc, Nat.mul_comm s 2, Nat.add_assoc]
theorem kl_in {h : Heap} : ∀ (t : BT) (s b : Nat) (acc : Frag), KT.Holds h s b (toKT t) → (∀ p ∈ acc, h.get? p.1 = some p.2) → ∀ p ∈ kl t s b acc, h.get? p.1 = some p.2
  | .nil, _, _, _, _, A, p, m => A p m
  | .node v l r, s, b, acc, H, A, p, m => by
    unfold kl at m
    rcases List.mem_cons.mp m with rfl | m
    · exact H.1 v rfl
    · exact kl_in l _ _ _ H.2.1 (kl_in r _ _ _ H.2.2 A) p m
theorem mem_lookup {a : Nat} {o : Obj} : ∀ {K : Frag}, K.lookup a = some o → (a, o) ∈ K
  | [], e => nomatch e
  | p :: K, e => by
    rw [List.lookup_cons] at e
    cases q : a == p.1 with
    | true =>
      rw [q] at e
      cases e
      rw [beq_iff_eq.mp q]
      exact .head _
    | false => rw [q] at e; exact .tail _ (mem_lookup e)
theorem frag_in {h : Heap} {t : BT} (H : KT.Holds h 1 0 (toKT t)) : Frag.In (kl t 1 0 []) h := fun _ _ e =>
  kl_in t 1 0 [] H (fun _ m => nomatch m) _ (mem_lookup e)
section
noncomputable def KF (P : Params) : Frag := kl (t76 P) 1 0 []
noncomputable def TF (P : Params) : KT := toKT (t76 P)
theorem okF (P : Params) : okT (nat_lit 958) (t76 P) 1 0 = true := by kernel_rfl
theorem tabs0 (P : Params) : tabsB (KF P) = true := by kernel_rfl
theorem law0 (P : Params) : nsIn (KF P) mainGlobals nLaw = some (some (.ref lawAt)) := by kernel_rfl
theorem all0 (P : Params) : lawAll (TF P) = true := by kernel_rfl
noncomputable def fT (P : Params) : FnD := fdOf (TF P) takeAt
noncomputable def fL (P : Params) : FnD := fdOf (TF P) lawAt
theorem take0 (P : Params) : TakeAll (TF P) := ⟨by kernel_rfl, (fT P).pars.getD 0 ⟨#[]⟩, (fT P).pars.getD 1 ⟨#[]⟩, eN (sE0 (fT P) 0 [1, 0]), eN (sE0 (fT P) 0 [1, 1]), (fT P).names, drawK (fT P), drawZ (fT P), by kernel_rfl, by kernel_rfl⟩
theorem shape0 (P : Params) : LawAt (TF P) := ⟨by kernel_rfl, lawK (fL P), lawZ (fL P), by kernel_rfl⟩
theorem turn0 (P : Params) : lawTurn (TF P) 0 = true := by kernel_rfl
theorem turn1 (P : Params) : lawTurn (TF P) 1 = true := by kernel_rfl
theorem turn2 (P : Params) : lawTurn (TF P) 2 = true := by kernel_rfl
theorem turn3 (P : Params) : lawTurn (TF P) 3 = true := by kernel_rfl
theorem turn4 (P : Params) : lawTurn (TF P) 4 = true := by kernel_rfl
theorem turn5 (P : Params) : lawTurn (TF P) 5 = true := by kernel_rfl
theorem factsF (P : Params) : KT.Holds (absHeap (t76 P) (nat_lit 958) {}) 1 0 (TF P) :=
  holdsAbs _ _ _ _ _ _ (fun i o e => by rw [Nat.one_mul, Nat.add_zero]; exact e) (okF P)
end
end Hd
end Mine
end

section
set_option maxRecDepth 100000
set_option Elab.async false
open PySem PySem.W PyProof.Rows
namespace Mine
namespace Hd
open PySem.W.X PySem.Calls PySem.Challenge
theorem facts {w : World} {s₀ : Shared} (y : Yf s₀ = Ya w) : KT.Holds s₀.heap 1 0 (TF w.params) := by
  have e : s₀.heap = Hf w.params := congrArg Prod.fst y
  rw [e]; exact factsF w.params
end Hd
end Mine
set_option maxRecDepth 100000 in
set_option maxHeartbeats 8000000 in
theorem PySem.Challenge.cw_pq1414_01_holds : PySem.Challenge.rw_pq1414_01.Holds := by
  w_on
  refine holds_law Mine.Hd.said fun said => ?_
  refine holds_openX (q := Mine.Hd.q) (loose := Mine.Hd.loose) (Xt := Mine.Hd.Xt) (XP := XL Mine.Hd.q []) (Yf := Mine.Hd.Yf) (Ya := Mine.Hd.Ya) (N := 14222) Mine.Hd.left0 (fun s e => xl_of s e) XL.keeps (by rfl) (by rfl) (by rfl) (fun s e => recFacts_nil rfl) rfl said Mine.Hd.oks ⟨rfl, rfl, rfl, rfl, rfl, by decide +kernel⟩ ?hw ?hc
  (case hw => w_witness2)
  intro w s₀ s₁ mg mb G y fa o pm cd doc dV kV ho hd hcd hD hmg hg args vals as L hpre hlay hrd hwl hlo
  have ZH := X.KT.Holds.keeps L.keeps (Mine.Hd.facts y)
  have KX := Mine.Hd.frag_in ZH
  refine Ground.open G ?_
  intro T B D TE TW
  wrow_args hpre hlay hrd hwl hlo
  first | refine callC_kw (enter_call ?_) | refine enter_call ?_ | refine callC_kw (enter_callW ?_) | refine enter_callW ?_
  w_top on
  try refine codeAny_mono ?_ (fun _ _ g => GoodW.toG g)
  have K0 := below_caller (Top.heap T)
  w_call any ho hd hcd hD T F
  rename Heap.IsList _ _ _ => hL
  rename IntsAre _ _ => hI
  refine Mine.law_end KX ZH T (by decide +kernel) (by rfl) (Mine.Hd.tabs0 _) (Mine.Hd.law0 _) hmg ho hd rfl rfl (Mine.Hd.all0 _) (Mine.Hd.shape0 _) (Mine.Hd.take0 _) (Mine.Hd.turn0 _) (Mine.Hd.turn1 _) (Mine.Hd.turn2 _) (Mine.Hd.turn3 _) (Mine.Hd.turn4 _) (Mine.Hd.turn5 _) F (by kernel_rfl) hL hI (by omega) (fun m' h t F' => ?_)
  refine goodW_bool F' hg (raisesW_false ?_) ?_
  · wrow_none_raised
  · wrow_post
end
