import PyProof.Rows.All
import Wide.All
import OpenK.AllK
import Wide.FinOn
import HandS.ForMost
import HandS.ForExc
import HandS.Zip
import HandS.TupAny
import HandS.TupMul
import HandS.Wide
import HandS.IsInst
import HandS.Deep
import HandS.Conv
import HandS.SetFor
import HandS.HotCalls
import HandS.ExcIs
import HandS.TryOnly
import KE.Datum
import KE.SortData
import KE.KTupSum
import KE.DataMinMax
import KE.DataFind
import KE.RegKIsAll
import HandS.Dict
import HandS.More
import HandS.Iter
import HandS.Style
import HandS.ListItems
import HandS.DictTup
import HandS.DictEq
import HandS.TryOnly
import KE.KIndexOf
import KE.KItemsList
import PyProof.EqAt
import PyProof.EqKinds
import PyProof.TupleCall
import KE.GoesEnum
import HandS.TupSets
import KE.KeyNested
import HandS.Text
import HandS.Codes
import PyProof.StrBlock2
import PySem.Challenge.RW_dicesums_k09_whole_texts
set_option Elab.async false
set_option linter.all false
set_option maxRecDepth 100000
set_option maxHeartbeats 8000000
/-! A data layer over HandS: values as trees, what changes in a store, one rule for a construct. -/
namespace DL
open PySem PySem.Spec PyProof.Rows L2

inductive Val where
  | non | bl (b : Bool) | int (i : Int) | str (x : Str)
  | tup (vs : List Val) | lst (vs : List Val) | rol (vs : List Val)
  | tpl (vs : List Val) | tpk (vs : List Val)
  | dic (kvs : List (Key × V)) | dit (kvs : List (List Key × V))
  | ref (l : Nat) | fn (x : Str)
inductive Cell where
  | lst (vs : List Val) | dic (kvs : List (Key × V)) | dit (kvs : List (List Key × V))
  | rod (kvs : List (Key × V)) | ins (c : Str) (fs : List (Str × Val))
abbrev Sto := List Cell
abbrev Rho := List (Option Val)

/-- a list that nobody changes -/
def FrzL (K : PySem.W.Frag) (H : Hp) (a : Addr) (xs : List V) : Prop := (∃ o, H a = some (.frz o (.lst xs))) ∨
  ∃ (o : Obj) (its : Array Value) (n : Nat), K.lookup a = some o ∧ o.cls = .type "list" ∧ o.dict = none ∧ o.data = .seq its n ∧ its.size ≤ sizeLine ∧ Vals xs its.toList
theorem FrzL.sq {K : PySem.W.Frag} {H : Hp} {a : Addr} {xs : List V} (h : FrzL K H a xs) : SqL K H a xs := by
  rcases h with h | h
  · exact .inl (.inr h)
  · exact .inr h
/-- a tuple whose object is known to have no dict -/
def TplN (H : Hp) (a : Addr) (xs : List V) : Prop := ∃ o : Obj, H a = some (.frz o (.tup xs)) ∧ o.cls = .type "tuple" ∧ o.dict = none
theorem TplN.sq {K : PySem.W.Frag} {H : Hp} {a : Addr} {xs : List V} (h : TplN H a xs) : SqT K H a xs := by
  obtain ⟨o, h, _, _⟩ := h
  exact .inl (.inr ⟨o, h⟩)
section
variable (K : PySem.W.Frag) (mg : Str → Option Value) (hd : List Addr)
mutual
inductive Rep (μ : List Addr) (H : Hp) : Val → V → Prop
  | non : Rep μ H .non .non
  | bl (b : Bool) : Rep μ H (.bl b) (.bl b)
  | int (i : Int) : Rep μ H (.int i) (.int i)
  | str (x : Str) : Rep μ H (.str x) (.str x)
  | tup {a : Addr} {xs : List V} {vs : List Val} : SqT K H a xs → RepL μ H vs xs → Rep μ H (.tup vs) (.ref a)
  | tpl {a : Addr} {xs : List V} {vs : List Val} : TplN H a xs → RepL μ H vs xs → Rep μ H (.tpl vs) (.ref a)
  | tpk {a : Addr} {xs : List V} {vs : List Val} : H a = some (.tup xs) → a ∉ μ → a ∉ hd → RepL μ H vs xs → Rep μ H (.tpk vs) (.ref a)
  | lst {a : Addr} {xs : List V} {vs : List Val} : H a = some (.lst xs) → a ∉ μ → a ∉ hd → RepL μ H vs xs → Rep μ H (.lst vs) (.ref a)
  | rol {a : Addr} {xs : List V} {vs : List Val} : FrzL K H a xs → RepL μ H vs xs → Rep μ H (.rol vs) (.ref a)
  | dic {a : Addr} {kvs : List (Key × V)} : Rd H a (.dK kvs) → a ∉ μ → a ∉ hd → Rep μ H (.dic kvs) (.ref a)
  | dit {a : Addr} {kvs : List (List Key × V)} : Rd H a (.dT kvs) → a ∉ μ → a ∉ hd → Rep μ H (.dit kvs) (.ref a)
  | ref {l : Nat} {a : Addr} : μ[l]? = some a → Rep μ H (.ref l) (.ref a)
  | fn {x : Str} {f : Addr} : mg x = some (.ref f) → Rep μ H (.fn x) (.ref f)
inductive RepL (μ : List Addr) (H : Hp) : List Val → List V → Prop
  | nil : RepL μ H [] []
  | cons {v : Val} {x : V} {vs : List Val} {xs : List V} : Rep μ H v x → RepL μ H vs xs → RepL μ H (v :: vs) (x :: xs)
end
/-- attributes, place by place -/
inductive RepF (μ : List Addr) (H : Hp) : List (Str × Val) → List (Str × V) → Prop
  | nil : RepF μ H [] []
  | cons {f : Str} {v : Val} {x : V} {vs : List (Str × Val)} {xs : List (Str × V)} : Rep K mg hd μ H v x → RepF μ H vs xs → RepF μ H ((f, v) :: vs) ((f, x) :: xs)
def CellOk (μ : List Addr) (H : Hp) (a : Addr) : Cell → Prop
  | .lst vs => ∃ xs, H a = some (.lst xs) ∧ RepL K mg hd μ H vs xs
  | .dic kvs => H a = some (.dK kvs)
  | .dit kvs => H a = some (.dT kvs)
  | .rod kvs => Rd H a (.dK kvs)
  | .ins c fs => ∃ C dx fs', mg c = some (.ref C) ∧ H a = some (.ins C dx fs') ∧ RepF K mg hd μ H fs fs'
structure StoOk (μ : List Addr) (st : Sto) (H : Hp) : Prop where
  len : μ.length = st.length
  nd : μ.Nodup
  cell : ∀ (l : Nat) (a : Addr) (c : Cell), μ[l]? = some a → st[l]? = some c → CellOk K mg hd μ H a c
  hid : ∀ b, b ∈ hd → b ∉ μ ∧ ∃ o, H b = some o
/-- what grows: the store's places, the objects; what is no cell stands -/
structure Ext (μ : List Addr) (H : Hp) (μ' : List Addr) (H' : Hp) : Prop where
  pre : ∃ ν, μ' = μ ++ ν
  out : ∀ a o, H a = some o → a ∉ μ → H' a = some o
  tup : ∀ a xs, Rd H a (.tup xs) → Rd H' a (.tup xs)
  frz : ∀ a o u, H a = some (.frz o u) → H' a = some (.frz o u)
  new : ∀ a, a ∈ μ' → a ∉ μ → H a = none
end

section
variable {K : PySem.W.Frag} {mg : Str → Option Value} {hd : List Addr} {μ μ1 μ2 : List Addr} {H H1 H2 : Hp}
theorem Ext.refl : Ext μ H μ H := ⟨⟨[], by simp⟩, fun _ _ h _ => h, fun _ _ h => h, fun _ _ _ h => h, fun _ h n => absurd h n⟩
theorem Ext.trans (e : Ext μ H μ1 H1) (f : Ext μ1 H1 μ2 H2) : Ext μ H μ2 H2 := by
  obtain ⟨ν, p1⟩ := e.pre
  obtain ⟨ν', p2⟩ := f.pre
  have sub : ∀ a, a ∈ μ → a ∈ μ1 := fun a h => by rw [p1]; exact List.mem_append_left _ h
  refine ⟨⟨ν ++ ν', by rw [p2, p1, List.append_assoc]⟩, fun a o h n => ?_, fun a xs h => f.tup _ _ (e.tup _ _ h), fun a o u h => f.frz _ _ _ (e.frz _ _ _ h), fun a h n => ?_⟩
  · by_cases h1 : a ∈ μ1
    · have := e.new a h1 n
      rw [h] at this
      cases this
    · exact f.out _ _ (e.out _ _ h n) h1
  · by_cases h1 : a ∈ μ1
    · exact e.new a h1 n
    · have h2 := f.new a h h1
      cases q : H a with
      | none => rfl
      | some o =>
        rw [e.out _ _ q n] at h2
        cases h2
theorem Ext.idx (e : Ext μ H μ1 H1) {l : Nat} {a : Addr} (h : μ[l]? = some a) : μ1[l]? = some a := by
  obtain ⟨ν, p⟩ := e.pre
  rw [p, List.getElem?_append_left (List.getElem?_eq_some_iff.mp h).1]
  exact h
theorem Ext.nin (e : Ext μ H μ1 H1) {a : Addr} {o : HO} (h : H a = some o) (n : a ∉ μ) : a ∉ μ1 := fun h1 => by
  have := e.new a h1 n
  rw [h] at this
  cases this
theorem Ext.rd (e : Ext μ H μ1 H1) {a : Addr} {u : HO} (h : Rd H a u) (n : a ∉ μ) : Rd H1 a u := by
  rcases h with h | ⟨o, h⟩
  · exact .inl (e.out _ _ h n)
  · exact .inr ⟨o, e.out _ _ h n⟩
theorem Rd.some {a : Addr} {u : HO} (h : Rd H a u) : ∃ o, H a = some o := by
  rcases h with h | ⟨o, h⟩
  · exact ⟨_, h⟩
  · exact ⟨_, h⟩
theorem Ext.sqT (e : Ext μ H μ1 H1) {a : Addr} {xs : List V} (h : SqT K H a xs) : SqT K H1 a xs := by
  rcases h with h | h
  · exact .inl (e.tup _ _ h)
  · exact .inr h
theorem Ext.tplN (e : Ext μ H μ1 H1) {a : Addr} {xs : List V} (h : TplN H a xs) : TplN H1 a xs := by
  obtain ⟨o, h, h1, h2⟩ := h
  exact ⟨o, e.frz _ _ _ h, h1, h2⟩
theorem Ext.frzL (e : Ext μ H μ1 H1) {a : Addr} {xs : List V} (h : FrzL K H a xs) : FrzL K H1 a xs := by
  rcases h with ⟨o, h⟩ | h
  · exact .inl ⟨o, e.frz _ _ _ h⟩
  · exact .inr h
mutual
theorem Rep.ext (e : Ext μ H μ1 H1) : ∀ (v : Val) (x : V), Rep K mg hd μ H v x → Rep K mg hd μ1 H1 v x
  | .non, _, h => by cases h; exact .non
  | .bl b, _, h => by cases h; exact .bl b
  | .int i, _, h => by cases h; exact .int i
  | .str i, _, h => by cases h; exact .str i
  | .tup vs, _, h => by
    cases h with
    | tup h1 h2 => exact .tup (e.sqT h1) (RepL.ext e vs _ h2)
  | .tpl vs, _, h => by
    cases h with
    | tpl h1 h2 => exact .tpl (e.tplN h1) (RepL.ext e vs _ h2)
  | .tpk vs, _, h => by
    cases h with
    | tpk h1 h2 h0 h3 => exact .tpk (e.out _ _ h1 h2) (e.nin h1 h2) h0 (RepL.ext e vs _ h3)
  | .lst vs, _, h => by
    cases h with
    | lst h1 h2 h0 h3 => exact .lst (e.out _ _ h1 h2) (e.nin h1 h2) h0 (RepL.ext e vs _ h3)
  | .rol vs, _, h => by
    cases h with
    | rol h1 h2 => exact .rol (e.frzL h1) (RepL.ext e vs _ h2)
  | .dic kvs, _, h => by
    cases h with
    | dic h1 h2 h0 =>
      obtain ⟨o, ho⟩ := Rd.some h1
      exact .dic (e.rd h1 h2) (e.nin ho h2) h0
  | .dit kvs, _, h => by
    cases h with
    | dit h1 h2 h0 =>
      obtain ⟨o, ho⟩ := Rd.some h1
      exact .dit (e.rd h1 h2) (e.nin ho h2) h0
  | .ref l, _, h => by
    cases h with
    | ref h1 => exact .ref (e.idx h1)
  | .fn x, _, h => by
    cases h with
    | fn h1 => exact .fn h1
theorem RepL.ext (e : Ext μ H μ1 H1) : ∀ (vs : List Val) (xs : List V), RepL K mg hd μ H vs xs → RepL K mg hd μ1 H1 vs xs
  | [], _, h => by cases h; exact .nil
  | v :: vs, _, h => by
    cases h with
    | cons h1 h2 => exact .cons (Rep.ext e v _ h1) (RepL.ext e vs _ h2)
end
theorem RepF.ext (e : Ext μ H μ1 H1) : ∀ {vs : List (Str × Val)} {xs : List (Str × V)}, RepF K mg hd μ H vs xs → RepF K mg hd μ1 H1 vs xs
  | _, _, .nil => .nil
  | _, _, .cons h1 h2 => .cons (Rep.ext e _ _ h1) (RepF.ext e h2)
theorem RepL.len : ∀ {vs : List Val} {xs : List V}, RepL K mg hd μ H vs xs → vs.length = xs.length
  | _, _, .nil => rfl
  | _, _, .cons _ h => by rw [List.length_cons, List.length_cons, RepL.len h]
theorem RepL.get : ∀ {vs : List Val} {xs : List V}, RepL K mg hd μ H vs xs → ∀ {i : Nat} {v : Val}, vs[i]? = some v → ∃ x, xs[i]? = some x ∧ Rep K mg hd μ H v x
  | _, _, .nil, i, v, h => by simp at h
  | _, _, .cons h1 _, 0, v, h => by
    simp at h
    subst h
    exact ⟨_, rfl, h1⟩
  | _, _, .cons _ h2, i + 1, v, h => by
    obtain ⟨x, e, r⟩ := RepL.get h2 (i := i) (v := v) (by simpa using h)
    exact ⟨x, by simpa using e, r⟩
theorem RepL.get' : ∀ {vs : List Val} {xs : List V}, RepL K mg hd μ H vs xs → ∀ {i : Nat} {x : V}, xs[i]? = some x → ∃ v, vs[i]? = some v ∧ Rep K mg hd μ H v x
  | _, _, .nil, i, v, h => by simp at h
  | _, _, .cons h1 _, 0, v, h => by
    simp at h
    subst h
    exact ⟨_, rfl, h1⟩
  | _, _, .cons _ h2, i + 1, v, h => by
    obtain ⟨x, e, r⟩ := RepL.get' h2 (i := i) (x := v) (by simpa using h)
    exact ⟨x, by simpa using e, r⟩
theorem RepL.append : ∀ {vs : List Val} {xs : List V} {ws : List Val} {ys : List V}, RepL K mg hd μ H vs xs → RepL K mg hd μ H ws ys → RepL K mg hd μ H (vs ++ ws) (xs ++ ys)
  | _, _, _, _, .nil, h => h
  | _, _, _, _, .cons h1 h2, h => .cons h1 (RepL.append h2 h)
theorem RepL.take : ∀ {vs : List Val} {xs : List V} (n : Nat), RepL K mg hd μ H vs xs → RepL K mg hd μ H (vs.take n) (xs.take n)
  | _, _, 0, _ => by rw [List.take_zero, List.take_zero]; exact .nil
  | _, _, n + 1, .nil => by rw [List.take_nil, List.take_nil]; exact .nil
  | _, _, n + 1, .cons h1 h2 => by rw [List.take_succ_cons, List.take_succ_cons]; exact .cons h1 (RepL.take n h2)
theorem RepL.drop : ∀ {vs : List Val} {xs : List V} (n : Nat), RepL K mg hd μ H vs xs → RepL K mg hd μ H (vs.drop n) (xs.drop n)
  | _, _, 0, h => h
  | _, _, n + 1, .nil => by rw [List.drop_nil, List.drop_nil]; exact .nil
  | _, _, n + 1, .cons h1 h2 => by rw [List.drop_succ_cons, List.drop_succ_cons]; exact RepL.drop n h2
theorem RepL.set {w : Val} {y : V} (h0 : Rep K mg hd μ H w y) : ∀ {vs : List Val} {xs : List V} (n : Nat), RepL K mg hd μ H vs xs → RepL K mg hd μ H (vs.set n w) (xs.set n y)
  | _, _, _, .nil => by rw [List.set_nil, List.set_nil]; exact .nil
  | _, _, 0, .cons h1 h2 => .cons h0 h2
  | _, _, n + 1, .cons h1 h2 => .cons h1 (RepL.set h0 n h2)
/-- a list of one kind of scalars -/
theorem RepL.ints : ∀ {ns : List Int} {xs : List V}, RepL K mg hd μ H (ns.map Val.int) xs → xs = ns.map V.int
  | [], _, h => by cases h; rfl
  | n :: ns, _, h => by
    cases h with
    | cons h1 h2 => cases h1; rw [RepL.ints h2]; rfl
theorem RepL.of_ints : ∀ (ns : List Int), RepL K mg hd μ H (ns.map Val.int) (ns.map V.int)
  | [] => .nil
  | n :: ns => .cons (.int n) (RepL.of_ints ns)
theorem RepL.bls : ∀ {ns : List Bool} {xs : List V}, RepL K mg hd μ H (ns.map Val.bl) xs → xs = ns.map V.bl
  | [], _, h => by cases h; rfl
  | n :: ns, _, h => by
    cases h with
    | cons h1 h2 => cases h1; rw [RepL.bls h2]; rfl
theorem CellOk.ext (e : Ext μ H μ1 H1) {a : Addr} : ∀ {c : Cell}, (∀ o, H a = some o → H1 a = some o) → CellOk K mg hd μ H a c → CellOk K mg hd μ1 H1 a c
  | .lst vs, k, ⟨xs, h, r⟩ => ⟨xs, k _ h, RepL.ext e _ _ r⟩
  | .dic kvs, k, h => k _ h
  | .dit kvs, k, h => k _ h
  | .rod kvs, k, h => by
    rcases h with h | ⟨o, h⟩
    · exact .inl (k _ h)
    · exact .inr ⟨o, k _ h⟩
  | .ins c fs, k, ⟨C, dx, fs', m, h, r⟩ => ⟨C, dx, fs', m, k _ h, RepF.ext e r⟩
theorem CellOk.there {a : Addr} : ∀ {c : Cell}, CellOk K mg hd μ H a c → ∃ o, H a = some o
  | .lst vs, ⟨xs, h, r⟩ => ⟨_, h⟩
  | .dic kvs, h => ⟨_, h⟩
  | .dit kvs, h => ⟨_, h⟩
  | .rod kvs, h => by
    rcases h with h | ⟨o, h⟩
    · exact ⟨_, h⟩
    · exact ⟨_, h⟩
  | .ins c fs, ⟨C, dx, fs', m, h, r⟩ => ⟨_, h⟩
theorem StoOk.at {st : Sto} (ok : StoOk K mg hd μ st H) {l : Nat} {c : Cell} (h : st[l]? = some c) : ∃ a, μ[l]? = some a ∧ a ∈ μ ∧ CellOk K mg hd μ H a c := by
  have hl : l < μ.length := by rw [ok.len]; exact (List.getElem?_eq_some_iff.mp h).1
  have e : μ[l]? = some μ[l] := List.getElem?_eq_getElem hl
  exact ⟨_, e, List.getElem_mem hl, ok.cell _ _ _ e h⟩
/-- a new object that is no cell -/
theorem Ext.obj {p : Addr} {o : HO} (hp : H p = none) : Ext μ H μ (upd H p o) :=
  ⟨⟨[], by simp⟩, fun a u h _ => by rw [upd_ne (ne_of_none h hp)]; exact h, fun a xs h => by
    rcases h with h | ⟨q, h⟩
    · exact .inl (by rw [upd_ne (ne_of_none h hp)]; exact h)
    · exact .inr ⟨q, by rw [upd_ne (ne_of_none h hp)]; exact h⟩, fun a q u h => by rw [upd_ne (ne_of_none h hp)]; exact h, fun a h n => absurd h n⟩
theorem StoOk.obj {st : Sto} {p : Addr} {o : HO} (ok : StoOk K mg hd μ st H) (hp : H p = none) : StoOk K mg hd μ st (upd H p o) :=
  ⟨ok.len, ok.nd, fun l a c h1 h2 => (ok.cell l a c h1 h2).ext (Ext.obj hp) fun u hu => by rw [upd_ne (ne_of_none hu hp)]; exact hu, fun b hb => by
    obtain ⟨h1, o, h2⟩ := ok.hid b hb
    exact ⟨h1, o, by rw [upd_ne (ne_of_none h2 hp)]; exact h2⟩⟩
/-- a new object that is a cell -/
theorem Ext.cell {p : Addr} {o : HO} (hp : H p = none) : Ext μ H (μ ++ [p]) (upd H p o) :=
  ⟨⟨[p], rfl⟩, fun a u h _ => by rw [upd_ne (ne_of_none h hp)]; exact h, fun a xs h => by
    rcases h with h | ⟨q, h⟩
    · exact .inl (by rw [upd_ne (ne_of_none h hp)]; exact h)
    · exact .inr ⟨q, by rw [upd_ne (ne_of_none h hp)]; exact h⟩, fun a q u h => by rw [upd_ne (ne_of_none h hp)]; exact h, fun a h n => by
    rw [List.mem_append] at h
    rcases h with h | h
    · exact absurd h n
    · rw [List.mem_singleton] at h
      rw [h]
      exact hp⟩
theorem StoOk.new {st : Sto} {p : Addr} {o : HO} {c : Cell} (ok : StoOk K mg hd μ st H) (hp : H p = none) (hc : CellOk K mg hd (μ ++ [p]) (upd H p o) p c) : StoOk K mg hd (μ ++ [p]) (st ++ [c]) (upd H p o) := by
  have hn : p ∉ μ := fun h => by
    obtain ⟨l, hl⟩ := List.getElem?_of_mem h
    have hs : l < st.length := by rw [← ok.len]; exact (List.getElem?_eq_some_iff.mp hl).1
    obtain ⟨o', ho⟩ := (ok.cell l p _ hl (List.getElem?_eq_getElem hs)).there
    rw [hp] at ho
    cases ho
  refine ⟨by rw [List.length_append, List.length_append, ok.len]; rfl, ?_, fun l a d h1 h2 => ?_, fun b hb => ?_⟩
  · rw [List.nodup_append]
    exact ⟨ok.nd, by simp, fun a ha b hb => by
      rw [List.mem_singleton] at hb
      rintro rfl
      exact hn (hb ▸ ha)⟩
  · by_cases hl : l < μ.length
    · rw [List.getElem?_append_left hl] at h1
      rw [List.getElem?_append_left (by rw [← ok.len]; exact hl)] at h2
      exact (ok.cell l a d h1 h2).ext (Ext.cell hp) fun u hu => by rw [upd_ne (ne_of_none hu hp)]; exact hu
    · have e1 : l = μ.length := by
        have := (List.getElem?_eq_some_iff.mp h1).1
        rw [List.length_append, List.length_singleton] at this
        omega
      subst e1
      rw [List.getElem?_append_right (Nat.le_refl _), Nat.sub_self] at h1
      rw [ok.len, List.getElem?_append_right (Nat.le_refl _), Nat.sub_self] at h2
      simp at h1 h2
      subst h1
      subst h2
      exact hc
  · obtain ⟨h1, o, h2⟩ := ok.hid b hb
    have nb : b ≠ p := ne_of_none h2 hp
    refine ⟨fun h => ?_, o, by rw [upd_ne nb]; exact h2⟩
    rw [List.mem_append, List.mem_singleton] at h
    rcases h with h | h
    · exact h1 h
    · exact nb h
/-- a cell is rewritten -/
theorem StoOk.idx {st : Sto} (ok : StoOk K mg hd μ st H) {l m : Nat} {a : Addr} (h1 : μ[l]? = some a) (h2 : μ[m]? = some a) : l = m := by
  have p1 := List.getElem?_eq_some_iff.mp h1
  have p2 := List.getElem?_eq_some_iff.mp h2
  obtain ⟨q1, e1⟩ := p1
  obtain ⟨q2, e2⟩ := p2
  have P := List.pairwise_iff_getElem.mp ok.nd
  rcases Nat.lt_trichotomy l m with z | z | z
  · exact absurd (e1.trans e2.symm) (P l m q1 q2 z)
  · exact z
  · exact absurd (e2.trans e1.symm) (P m l q2 q1 z)
/-- what may stand in a cell is no tuple, nothing frozen -/
def Plain : HO → Prop
  | .tup _ => False
  | .frz _ _ => False
  | _ => True
theorem Ext.set {a : Addr} {o u : HO} (ha : a ∈ μ) (h : H a = some u) (hu : Plain u) : Ext μ H μ (upd H a o) :=
  ⟨⟨[], by simp⟩, fun b q hb n => by rw [upd_ne (a := a) (b := b) (by rintro rfl; exact n ha)]; exact hb, fun b xs hb => by
    have : b ≠ a := by
      rintro rfl
      rcases hb with hb | ⟨q, hb⟩
      · rw [h] at hb; cases hb; exact hu
      · rw [h] at hb; cases hb; exact hu
    rcases hb with hb | ⟨q, hb⟩
    · exact .inl (by rw [upd_ne this]; exact hb)
    · exact .inr ⟨q, by rw [upd_ne this]; exact hb⟩, fun b q w hb => by
    have : b ≠ a := by
      rintro rfl
      rw [h] at hb; cases hb; exact hu
    rw [upd_ne this]; exact hb, fun b hb n => absurd hb n⟩
theorem StoOk.set {st : Sto} {l : Nat} {a : Addr} {o u : HO} {c : Cell} (ok : StoOk K mg hd μ st H) (hl : μ[l]? = some a) (h : H a = some u) (hu : Plain u) (hc : CellOk K mg hd μ (upd H a o) a c) : StoOk K mg hd μ (st.set l c) (upd H a o) := by
  have ha : a ∈ μ := List.mem_of_getElem? hl
  refine ⟨by rw [List.length_set]; exact ok.len, ok.nd, fun m b d h1 h2 => ?_, fun b hb => by
    obtain ⟨h1, q, h2⟩ := ok.hid b hb
    exact ⟨h1, q, by rw [upd_ne (a := a) (b := b) (by rintro rfl; exact h1 ha)]; exact h2⟩⟩
  by_cases e : m = l
  · subst e
    rw [hl] at h1
    cases h1
    rw [List.getElem?_set_self (by rw [← ok.len]; exact (List.getElem?_eq_some_iff.mp hl).1)] at h2
    cases h2
    exact hc
  · rw [List.getElem?_set_ne (fun z => e z.symm)] at h2
    have nb : b ≠ a := fun z => e (ok.idx (z ▸ h1) hl)
    exact (ok.cell m b d h1 h2).ext (Ext.set ha h hu) fun w hw => by rw [upd_ne nb]; exact hw
end
end DL

namespace DL
open PySem PySem.Spec PyProof.Rows L2
abbrev St := L2.St

inductive Res (α : Type) where
  | ok (v : α) (st : Sto) | exc (c : Str) (st : Sto) | stuck
def Res.bind {α β : Type} (r : Res α) (k : α → Sto → Res β) : Res β := match r with
  | .ok v st => k v st
  | .exc c st => .exc c st
  | .stuck => .stuck
@[simp] theorem Res.bind_ok {α β : Type} (v : α) (st : Sto) (k : α → Sto → Res β) : (Res.ok v st).bind k = k v st := rfl
@[simp] theorem Res.bind_exc {α β : Type} (c : Str) (st : Sto) (k : α → Sto → Res β) : (Res.exc c st : Res α).bind k = .exc c st := rfl
@[simp] theorem Res.bind_stuck {α β : Type} (k : α → Sto → Res β) : (Res.stuck : Res α).bind k = .stuck := rfl
abbrev ME := Rho → Sto → Res Val
abbrev MT := Rho → Sto → Res Bool
abbrev MA := Rho → Sto → Res (List Val)
abbrev MC := Rho → Sto → Res Cell
inductive ResS where
  | next (ρ : Rho) (st : Sto) | ret (v : Val) (st : Sto) | brk (ρ : Rho) (st : Sto) | cnt (ρ : Rho) (st : Sto) | exc (c : Str) (ρ : Rho) (st : Sto) | stuck
abbrev MS := Rho → Sto → ResS

section
variable (K : PySem.W.Frag) (mg : Str → Option Value) (hd : List Addr)
structure Sim (μ : List Addr) (ρ : Rho) (st : Sto) (σ : St) (H : Hp) : Prop where
  sto : StoOk K mg hd μ st H
  len : ρ.length = σ.length
  slot : ∀ (i : Nat) (v : Val), ρ[i]? = some (some v) → ∃ x, σ[i]? = some (some x) ∧ Rep K mg hd μ H v x
def Good {α : Type} (μ : List Addr) (H : Hp) (r : Res α) (f : List Addr → Sto → Hp → α → Prop) (g : Str → Hp → Prop) : Prop := match r with
  | .ok v st => ∀ μ' H', Ext μ H μ' H' → StoOk K mg hd μ' st H' → f μ' st H' v
  | .exc c st => ∀ μ' H', Ext μ H μ' H' → StoOk K mg hd μ' st H' → g c H'
  | .stuck => False
end
section
variable (K : PySem.W.Frag) (mg : Str → Option Value)
/-- what is wished of an exception of the class named c -/
def gW (W : WX) (σ : St) (c : Str) (H : Hp) : Prop := ∃ C, mg c = some (.ref C) ∧ W (.ref C) none σ H
def TD (W : WX) (m : ME) : TE := fun σ H Q => ∃ hd μ ρ st, Sim K mg hd μ ρ st σ H ∧ Good K mg hd μ H (m ρ st) (fun μ' _ H' v => ∀ x, Rep K mg hd μ' H' v x → Q x H') (gW mg W σ)
/-- a new list, a new dict: it may be made a cell, or be a value -/
def TDF (W : WX) (m : MC) : TE := fun σ H Q => ∃ hd μ ρ st, Sim K mg hd μ ρ st σ H ∧ Good K mg hd μ H (m ρ st) (fun μ' st' H' c =>
  ∀ a, H a = none → a ∉ μ' → a ∉ hd → CellOk K mg hd μ' H' a c → StoOk K mg hd (μ' ++ [a]) (st' ++ [c]) H' → Q (.ref a) H') (gW mg W σ)
def TDT (W : WX) (m : MT) : TT := fun σ H Q => ∃ hd μ ρ st, Sim K mg hd μ ρ st σ H ∧ Good K mg hd μ H (m ρ st) (fun _ _ H' b => Q b H') (gW mg W σ)
def TDA (W : WX) (m : MA) : TA := fun σ H Q => ∃ hd μ ρ st, Sim K mg hd μ ρ st σ H ∧ Good K mg hd μ H (m ρ st) (fun μ' _ H' vs => ∀ xs, RepL K mg hd μ' H' vs xs → Q xs H') (gW mg W σ)
def TDS (W : WX) (m : MS) : TS := fun D σ H => ∃ hd μ ρ st, Sim K mg hd μ ρ st σ H ∧ match m ρ st with
  | .next ρ' st' => ∀ μ' H' σ', Ext μ H μ' H' → Sim K mg hd μ' ρ' st' σ' H' → D.nx σ' H'
  | .ret v st' => ∀ μ' H' x, Ext μ H μ' H' → StoOk K mg hd μ' st' H' → Rep K mg hd μ' H' v x → D.rt x H'
  | .brk ρ' st' => ∀ μ' H' σ', Ext μ H μ' H' → Sim K mg hd μ' ρ' st' σ' H' → D.bk σ' H'
  | .cnt ρ' st' => ∀ μ' H' σ', Ext μ H μ' H' → Sim K mg hd μ' ρ' st' σ' H' → D.ct σ' H'
  | .exc c ρ' st' => ∀ μ' H' σ', Ext μ H μ' H' → Sim K mg hd μ' ρ' st' σ' H' → gW mg W σ' c H'
  | .stuck => False
end

section
variable {K : PySem.W.Frag} {mg : Str → Option Value} {hd : List Addr} {μ μ1 μ2 : List Addr} {H H1 H2 : Hp} {ρ : Rho} {st st1 : Sto} {σ : St}
theorem Sim.ext (S : Sim K mg hd μ ρ st σ H) (e : Ext μ H μ1 H1) (ok : StoOk K mg hd μ1 st1 H1) : Sim K mg hd μ1 ρ st1 σ H1 :=
  ⟨ok, S.len, fun i v h => by
    obtain ⟨x, h1, h2⟩ := S.slot i v h
    exact ⟨x, h1, Rep.ext e _ _ h2⟩⟩
theorem Sim.set (S : Sim K mg hd μ ρ st σ H) {i : Nat} {v : Val} {x : V} (r : Rep K mg hd μ H v x) : Sim K mg hd μ (ρ.set i (some v)) st (σ.set i (some x)) H :=
  ⟨S.sto, by rw [List.length_set, List.length_set]; exact S.len, fun j w h => by
    by_cases e : i = j
    · subst e
      by_cases hi : i < ρ.length
      · rw [List.getElem?_set_self hi] at h
        cases h
        exact ⟨x, List.getElem?_set_self (by rw [← S.len]; exact hi), r⟩
      · rw [List.getElem?_eq_none (by rw [List.length_set]; omega)] at h
        cases h
    · rw [List.getElem?_set_ne e] at h ⊢
      exact S.slot j w h⟩
theorem Good.imp {α : Type} {r : Res α} {f f' : List Addr → Sto → Hp → α → Prop} {g g' : Str → Hp → Prop} (G : Good K mg hd μ H r f g)
    (h : ∀ μ' st' H' v, Ext μ H μ' H' → StoOk K mg hd μ' st' H' → f μ' st' H' v → f' μ' st' H' v) (hg : ∀ c H', g c H' → g' c H') : Good K mg hd μ H r f' g' := by
  cases r with
  | ok v st => exact fun μ' H' e o => h _ _ _ _ e o (G μ' H' e o)
  | exc c st => exact fun μ' H' e o => hg _ _ (G μ' H' e o)
  | stuck => exact G
theorem Good.bind {α β : Type} {r : Res α} {k : α → Sto → Res β} {f : List Addr → Sto → Hp → β → Prop} {g : Str → Hp → Prop} (G : Good K mg hd μ H (r.bind k) f g) :
    Good K mg hd μ H r (fun μ' st' H' v => Good K mg hd μ' H' (k v st') f g) g := by
  cases r with
  | ok v st =>
    intro μ' H' e o
    have G' : Good K mg hd μ H (k v st) f g := G
    show Good K mg hd μ' H' (k v st) f g
    cases h : k v st with
    | ok w st' =>
      rw [h] at G'
      exact fun μ2 H2 e2 o2 => G' μ2 H2 (e.trans e2) o2
    | exc c st' =>
      rw [h] at G'
      exact fun μ2 H2 e2 o2 => G' μ2 H2 (e.trans e2) o2
    | stuck =>
      rw [h] at G'
      exact G'
  | exc c st => exact G
  | stuck => exact G
theorem Good.here {α : Type} {v : α} {f : List Addr → Sto → Hp → α → Prop} {g : Str → Hp → Prop} (G : Good K mg hd μ H (.ok v st) f g) (o : StoOk K mg hd μ st H) : f μ st H v := G μ H Ext.refl o
end

/-! ### expressions -/
theorem PE.imp {X : Cx} {e : Expr} {t t' : TE} (h : PE X e t) (i : ∀ σ H Q, t' σ H Q → t σ H Q) : PE X e t' := ⟨fun pins s σ H Q I q => h.run pins s σ H Q I (i σ H Q q)⟩
theorem PT.imp {X : Cx} {e : Expr} {t t' : TT} (h : PT X e t) (i : ∀ σ H Q, t' σ H Q → t σ H Q) : PT X e t' := ⟨fun pins s σ H Q I q => h.run pins s σ H Q I (i σ H Q q)⟩
theorem PW.imp {X : Cx} {e : Expr} {t t' : TT} (h : PW X e t) (i : ∀ σ H Q, t' σ H Q → t σ H Q) : PW X e t' := ⟨fun wh pins s σ H Q I q => h.run wh pins s σ H Q I (i σ H Q q)⟩
theorem PA.imp {X : Cx} {e : List Expr} {t t' : TA} (h : PA X e t) (i : ∀ σ H Q, t' σ H Q → t σ H Q) : PA X e t' := ⟨fun pos pins s σ H Q I q => h.run pos pins s σ H Q I (i σ H Q q)⟩
theorem PS.imp {X : Cx} {e : Stmt} {t t' : TS} (h : PS X e t) (i : ∀ D σ H, t' D σ H → t D σ H) : PS X e t' := ⟨fun pins s σ H D I q => h.run pins s σ H D I (i D σ H q)⟩
theorem PSs.imp {X : Cx} {e : List Stmt} {t t' : TS} (h : PSs X e t) (i : ∀ D σ H, t' D σ H → t D σ H) : PSs X e t' := ⟨fun pins s σ H D I q => h.run pins s σ H D I (i D σ H q)⟩

def mVar (i : Nat) : ME := fun ρ st => match ρ[i]? with
  | some (some v) => .ok v st
  | _ => .stuck
def mC (v : Val) : ME := fun _ st => .ok v st
def mSeqA (m : ME) (ms : MA) : MA := fun ρ st => (m ρ st).bind fun v st1 => (ms ρ st1).bind fun vs st2 => .ok (v :: vs) st2
def mNilA : MA := fun _ st => .ok [] st
/-- a two-place operation -/
def mOp (F : Val → Val → Sto → Res Val) (a b : ME) : ME := fun ρ st => (a ρ st).bind fun v st1 => (b ρ st1).bind fun w st2 => F v w st2
def mUn (F : Val → Sto → Res Val) (a : ME) : ME := fun ρ st => (a ρ st).bind fun v st1 => F v st1
def mCall (F : List Val → Sto → Res Val) (a : MA) : ME := fun ρ st => (a ρ st).bind fun v st1 => F v st1
def Val.ofCell : Cell → Val
  | .lst vs => .lst vs
  | .dic kvs => .dic kvs
  | .dit kvs => .dit kvs
  | .rod kvs => .dic kvs
  | .ins _ _ => .non
def isLD : Cell → Bool
  | .lst _ => true
  | .dic _ => true
  | .dit _ => true
  | _ => false
def mVal (m : MC) : ME := fun ρ st => (m ρ st).bind fun c st1 => if isLD c = true then .ok (.ofCell c) st1 else .stuck
def mNew (m : MC) : ME := fun ρ st => (m ρ st).bind fun c st1 => .ok (.ref st1.length) (st1 ++ [c])

section
variable {X : Cx} {W : WX} {σ : St} {H : Hp}
/-- the reading of a two-place operation by F -/
def rOf (K : PySem.W.Frag) (mg : Str → Option Value) (F : Val → Val → Sto → Res Val) : R2 := fun x y H Q => ∃ hd μ st v w, StoOk K mg hd μ st H ∧ Rep K mg hd μ H v x ∧ Rep K mg hd μ H w y ∧
  Good K mg hd μ H (F v w st) (fun μ' _ H' u => ∀ z, Rep K mg hd μ' H' u z → Q z H') (fun _ _ => False)
def OpD (X : Cx) (f : Value → Value → Sem Value) (F : Val → Val → Sto → Res Val) : Prop := OpR X f (rOf X.K X.mg F)
/-- F never raises -/
def NoExc2 (F : Val → Val → Sto → Res Val) : Prop := ∀ v w st c st', F v w st ≠ .exc c st'
theorem tOp_of {F : Val → Val → Sto → Res Val} {ma mb : ME} (hF : NoExc2 F) {Q : VK} (h : TD X.K X.mg W (mOp F ma mb) σ H Q) : tOp (rOf X.K X.mg F) (TD X.K X.mg W ma) (TD X.K X.mg W mb) σ H Q := by
  obtain ⟨hd, μ, ρ, st, S, G⟩ := h
  refine ⟨hd, μ, ρ, st, S, Good.imp (Good.bind G) (fun μ1 st1 H1 v e1 o1 G1 x rx => ?_) fun _ _ h => h⟩
  refine ⟨hd, μ1, ρ, st1, S.ext e1 o1, Good.imp (Good.bind G1) (fun μ2 st2 H2 w e2 o2 G2 y ry => ?_) fun _ _ h => h⟩
  refine ⟨hd, μ2, st2, v, w, o2, Rep.ext e2 _ _ rx, ry, ?_⟩
  cases hr : F v w st2 with
  | ok u st3 => rw [hr] at G2; exact G2
  | exc c st3 => exact absurd hr (hF _ _ _ _ _)
  | stuck => rw [hr] at G2; exact G2
theorem d_op {op : Operator} {a b : Expr} {pos : Pos} {F : Val → Val → Sto → Res Val} {ma mb : ME} (ho : OpD X (binaryOp op) F) (hF : NoExc2 F) (ha : PE X a (TD X.K X.mg W ma)) (hb : PE X b (TD X.K X.mg W mb)) :
    PE X (.BinOp a op b pos) (TD X.K X.mg W (mOp F ma mb)) := PE.imp (pe_op ho ha hb) fun _ _ _ h => tOp_of hF h
theorem d_cmp {op : CmpOp} {a b : Expr} {pos : Pos} {F : Val → Val → Sto → Res Val} {ma mb : ME} (ho : OpD X (compareOp op) F) (hF : NoExc2 F) (ha : PE X a (TD X.K X.mg W ma)) (hb : PE X b (TD X.K X.mg W mb)) (hm : behindInMarks op b = false) :
    PE X (.Compare a [op] [b] pos) (TD X.K X.mg W (mOp F ma mb)) := PE.imp (pe_cmpR ho ha hb hm) fun _ _ _ h => tOp_of hF h
def mBool (m : ME) : MT := fun ρ st => (m ρ st).bind fun v st1 => match v with
  | .bl b => .ok b st1
  | _ => .stuck
theorem tTest_of {m : ME} {Q : Bool → Hp → Prop} (h : TDT X.K X.mg W (mBool m) σ H Q) : tTest (TD X.K X.mg W m) σ H Q := by
  obtain ⟨hd, μ, ρ, st, S, G⟩ := h
  refine ⟨hd, μ, ρ, st, S, Good.imp (Good.bind G) (fun μ1 st1 H1 v e1 o1 G1 x rx => ?_) fun _ _ h => h⟩
  cases v with
  | bl b => cases rx; exact ⟨b, rfl, G1.here o1⟩
  | _ => exact G1.elim
theorem dt_cmp {op : CmpOp} {a b : Expr} {pos : Pos} {F : Val → Val → Sto → Res Val} {ma mb : ME} (ho : OpD X (compareOp op) F) (hF : NoExc2 F) (ha : PE X a (TD X.K X.mg W ma)) (hb : PE X b (TD X.K X.mg W mb)) (hm : behindInMarks op b = false) :
    PT X (.Compare a [op] [b] pos) (TDT X.K X.mg W (mBool (mOp F ma mb))) :=
  PT.imp (pt_cmpR ho ha hb hm) fun σ H Q h => by
    have := tTest_of h
    obtain ⟨hd, μ, ρ, st, S, G⟩ := this
    exact tOp_of hF ⟨hd, μ, ρ, st, S, G⟩
theorem dt_val {e : Expr} {m : ME} (h : PE X e (TD X.K X.mg W m)) (he : ∀ whole, isTrue e X.env whole = (do let v ← whole; standAt e.pos; holding [v] (truthy v)) := by intro _; rfl) : PT X e (TDT X.K X.mg W (mBool m)) :=
  PT.imp (pt_val h he) fun σ H Q h => tTest_of h
def mNot (m : MT) : MT := fun ρ st => (m ρ st).bind fun b st1 => .ok (!b) st1
def mAnd (a b : MT) : MT := fun ρ st => (a ρ st).bind fun c st1 => if c = true then b ρ st1 else .ok false st1
def mOr (a b : MT) : MT := fun ρ st => (a ρ st).bind fun c st1 => if c = true then .ok true st1 else b ρ st1
theorem dt_not {a : Expr} {pos : Pos} {m : MT} (h : PT X a (TDT X.K X.mg W m)) : PT X (.UnaryOp .Not a pos) (TDT X.K X.mg W (mNot m)) :=
  PT.imp (pt_not h) fun σ H Q ⟨hd, μ, ρ, st, S, G⟩ => ⟨hd, μ, ρ, st, S, Good.imp (Good.bind G) (fun μ1 st1 H1 v e1 o1 G1 => G1.here o1) fun _ _ h => h⟩
variable {a b : Expr} {rest : List Expr} {pos : Pos} {ma mb : MT}
theorem dw_and1 (ha : PT X a (TDT X.K X.mg W ma)) : PW X (.BoolOp .And [a] pos) (TDT X.K X.mg W ma) := pw_and1 ha
theorem dw_or1 (ha : PT X a (TDT X.K X.mg W ma)) : PW X (.BoolOp .Or [a] pos) (TDT X.K X.mg W ma) := pw_or1 ha
theorem dw_and (ha : PT X a (TDT X.K X.mg W ma)) (hb : PW X (.BoolOp .And (b :: rest) pos) (TDT X.K X.mg W mb)) : PW X (.BoolOp .And (a :: b :: rest) pos) (TDT X.K X.mg W (mAnd ma mb)) :=
  PW.imp (pw_and ha hb) fun σ H Q ⟨hd, μ, ρ, st, S, G⟩ => ⟨hd, μ, ρ, st, S, Good.imp (Good.bind G) (fun μ1 st1 H1 v e1 o1 G1 => by
    cases v with
    | true => exact ⟨hd, μ1, ρ, st1, S.ext e1 o1, G1⟩
    | false => exact G1.here o1) fun _ _ h => h⟩
theorem dw_or (ha : PT X a (TDT X.K X.mg W ma)) (hb : PW X (.BoolOp .Or (b :: rest) pos) (TDT X.K X.mg W mb)) : PW X (.BoolOp .Or (a :: b :: rest) pos) (TDT X.K X.mg W (mOr ma mb)) :=
  PW.imp (pw_or ha hb) fun σ H Q ⟨hd, μ, ρ, st, S, G⟩ => ⟨hd, μ, ρ, st, S, Good.imp (Good.bind G) (fun μ1 st1 H1 v e1 o1 G1 => by
    cases v with
    | true => exact G1.here o1
    | false => exact ⟨hd, μ1, ρ, st1, S.ext e1 o1, G1⟩) fun _ _ h => h⟩
/-- .. as values -/
def mAndV (a b : ME) : ME := fun ρ st => (a ρ st).bind fun v st1 => match v with
  | .bl true => b ρ st1
  | .bl false => .ok (.bl false) st1
  | _ => .stuck
def mOrV (a b : ME) : ME := fun ρ st => (a ρ st).bind fun v st1 => match v with
  | .bl true => .ok (.bl true) st1
  | .bl false => b ρ st1
  | _ => .stuck
def mNotV (a : ME) : ME := fun ρ st => (a ρ st).bind fun v st1 => match v with
  | .bl b => .ok (.bl (!b)) st1
  | _ => .stuck
variable {xa xb : ME}
theorem d_one {op} (h : PE X a (TD X.K X.mg W xa)) : PE X (.BoolOp op [a] pos) (TD X.K X.mg W xa) := pe_one h
theorem d_and (ha : PE X a (TD X.K X.mg W xa)) (hb : PE X (.BoolOp .And (b :: rest) pos) (TD X.K X.mg W xb)) : PE X (.BoolOp .And (a :: b :: rest) pos) (TD X.K X.mg W (mAndV xa xb)) :=
  PE.imp (pe_and ha hb) fun σ H Q ⟨hd, μ, ρ, st, S, G⟩ => ⟨hd, μ, ρ, st, S, Good.imp (Good.bind G) (fun μ1 st1 H1 v e1 o1 G1 x rx => by
    cases v with
    | bl c =>
      cases rx
      refine ⟨c, rfl, ?_⟩
      cases c with
      | true => exact ⟨hd, μ1, ρ, st1, S.ext e1 o1, G1⟩
      | false => exact G1.here o1 _ (.bl false)
    | _ => exact G1.elim) fun _ _ h => h⟩
theorem d_or (ha : PE X a (TD X.K X.mg W xa)) (hb : PE X (.BoolOp .Or (b :: rest) pos) (TD X.K X.mg W xb)) : PE X (.BoolOp .Or (a :: b :: rest) pos) (TD X.K X.mg W (mOrV xa xb)) :=
  PE.imp (pe_or ha hb) fun σ H Q ⟨hd, μ, ρ, st, S, G⟩ => ⟨hd, μ, ρ, st, S, Good.imp (Good.bind G) (fun μ1 st1 H1 v e1 o1 G1 x rx => by
    cases v with
    | bl c =>
      cases rx
      refine ⟨c, rfl, ?_⟩
      cases c with
      | true => exact G1.here o1 _ (.bl true)
      | false => exact ⟨hd, μ1, ρ, st1, S.ext e1 o1, G1⟩
    | _ => exact G1.elim) fun _ _ h => h⟩
theorem d_not (ha : PE X a (TD X.K X.mg W xa)) : PE X (.UnaryOp .Not a pos) (TD X.K X.mg W (mNotV xa)) :=
  PE.imp (pe_not ha) fun σ H Q ⟨hd, μ, ρ, st, S, G⟩ => ⟨hd, μ, ρ, st, S, Good.imp (Good.bind G) (fun μ1 st1 H1 v e1 o1 G1 x rx => by
    cases v with
    | bl c =>
      cases rx
      exact ⟨c, rfl, G1.here o1 _ (.bl _)⟩
    | _ => exact G1.elim) fun _ _ h => h⟩
def mIf (c : MT) (a b : ME) : ME := fun ρ st => (c ρ st).bind fun v st1 => if v = true then a ρ st1 else b ρ st1
theorem d_if {c : Expr} {mc : MT} (hc : PT X c (TDT X.K X.mg W mc)) (ha : PE X a (TD X.K X.mg W xa)) (hb : PE X b (TD X.K X.mg W xb)) : PE X (.IfExp c a b pos) (TD X.K X.mg W (mIf mc xa xb)) :=
  PE.imp (pe_ifExp hc ha hb) fun σ H Q ⟨hd, μ, ρ, st, S, G⟩ => ⟨hd, μ, ρ, st, S, Good.imp (Good.bind G) (fun μ1 st1 H1 v e1 o1 G1 => by
    cases v with
    | true => exact ⟨hd, μ1, ρ, st1, S.ext e1 o1, G1⟩
    | false => exact ⟨hd, μ1, ρ, st1, S.ext e1 o1, G1⟩) fun _ _ h => h⟩
theorem d_tvar {i : Nat} (σ : St) (H : Hp) (Q : VK) (h : TD X.K X.mg W (mVar i) σ H Q) : tVar i σ H Q := by
  obtain ⟨hd, μ, ρ, st, S, G⟩ := h
  unfold mVar at G
  cases e : ρ[i]? with
  | none => rw [e] at G; exact G.elim
  | some o =>
    cases o with
    | none => rw [e] at G; exact G.elim
    | some v =>
      rw [e] at G
      obtain ⟨x, h1, h2⟩ := S.slot i v e
      exact ⟨x, h1, G.here S.sto x h2⟩
theorem dv (i : Nat) {x : Str} {pos : Pos} (hN : X.N[i]? = some x := by rfl) (hv : Vis X.env.scope x := by first | exact Or.inl rfl | exact Or.inr (Or.inl rfl) | exact Or.inr (Or.inr rfl)) (hd : (x == ("__debug__" : Str)) = false := by decide)
    (hcd : (x == ("__classdict__" : Str)) = false := by decide) : PE X (.Name x pos) (TD X.K X.mg W (mVar i)) := PE.imp (pv i hN hv hd hcd) d_tvar
theorem d_tc {v : Val} {y : V} (hr : ∀ hd μ H, Rep X.K X.mg hd μ H v y) (σ : St) (H : Hp) (Q : VK) (h : TD X.K X.mg W (mC v) σ H Q) : tC y σ H Q := by
  obtain ⟨hd, μ, ρ, st, S, G⟩ := h
  exact G.here S.sto y (hr _ _ _)
theorem d_int {i j pos} : PE X (.Constant (.int i) j pos) (TD X.K X.mg W (mC (.int i))) := PE.imp pe_int (d_tc fun _ _ _ => .int i)
theorem d_bl {b j pos} : PE X (.Constant (.bool b) j pos) (TD X.K X.mg W (mC (.bl b))) := PE.imp pe_bl (d_tc fun _ _ _ => .bl b)
theorem d_non {j pos} : PE X (.Constant .none j pos) (TD X.K X.mg W (mC .non)) := PE.imp pe_non (d_tc fun _ _ _ => .non)
theorem d_str {x j pos} : PE X (.Constant (.str x) j pos) (TD X.K X.mg W (mC (.str x))) := PE.imp pe_str (d_tc fun _ _ _ => .str x)
/-- a module's whole number -/
theorem d_gint {x : Str} {n : Int} {u : Value} {pos : Pos} (hg : Gl X x) (hm : X.mg x = some u) (r : RelV (.int n) u) (hd : (x == ("__debug__" : Str)) = false := by decide) : PE X (.Name x pos) (TD X.K X.mg W (mC (.int n))) :=
  PE.imp (pe_glob hg hm r hd) (d_tc fun _ _ _ => .int n)
theorem d_gstr {x : Str} {n : Str} {u : Value} {pos : Pos} (hg : Gl X x) (hm : X.mg x = some u) (r : RelV (.str n) u) (hd : (x == ("__debug__" : Str)) = false := by decide) : PE X (.Name x pos) (TD X.K X.mg W (mC (.str n))) :=
  PE.imp (pe_glob hg hm r hd) (d_tc fun _ _ _ => .str n)
/-- a def as a value -/
theorem d_gfn {x : Str} {f : Addr} {pos : Pos} (hg : Gl X x) (hm : X.mg x = some (.ref f)) (hd : (x == ("__debug__" : Str)) = false := by decide) : PE X (.Name x pos) (TD X.K X.mg W (mC (.fn x))) :=
  PE.imp (pe_glob (v := .ref f) hg hm rfl hd) (d_tc fun _ _ _ => .fn hm)
/-! arguments, displays -/
theorem da_nil : PA X [] (TDA X.K X.mg W mNilA) := PA.imp pa_nil fun σ H Q ⟨hd, μ, ρ, st, S, G⟩ => G.here S.sto [] .nil
theorem da_cons {e : Expr} {es : List Expr} {m : ME} {ms : MA} (ha : PE X e (TD X.K X.mg W m)) (hr : PA X es (TDA X.K X.mg W ms)) (hs : starEach (e :: es) X.env = (false, eval e X.env) :: starEach es X.env := by rfl) :
    PA X (e :: es) (TDA X.K X.mg W (mSeqA m ms)) :=
  PA.imp (pa_cons ha hr hs) fun σ H Q ⟨hd, μ, ρ, st, S, G⟩ => ⟨hd, μ, ρ, st, S, Good.imp (Good.bind G) (fun μ1 st1 H1 v e1 o1 G1 x rx =>
    ⟨hd, μ1, ρ, st1, S.ext e1 o1, Good.imp (Good.bind G1) (fun μ2 st2 H2 vs e2 o2 G2 xs rxs => G2.here o2 _ (.cons (Rep.ext e2 _ _ rx) rxs)) fun _ _ h => h⟩) fun _ _ h => h⟩
def mTup (ms : MA) : ME := fun ρ st => (ms ρ st).bind fun vs st1 => if vs.length ≤ sizeLine then .ok (.tup vs) st1 else .stuck
def mLst (ms : MA) : MC := fun ρ st => (ms ρ st).bind fun vs st1 => if vs.length ≤ sizeLine then .ok (.lst vs) st1 else .stuck
theorem d_tup {es : List Expr} {k} {ms : MA} (h : PA X es (TDA X.K X.mg W ms)) : PE X (.Tuple es k pos) (TD X.K X.mg W (mTup ms)) :=
  PE.imp (pe_tup h) fun σ H Q ⟨hd, μ, ρ, st, S, G⟩ => ⟨hd, μ, ρ, st, S, Good.imp (Good.bind G) (fun μ1 st1 H1 vs e1 o1 G1 xs rxs => by
    by_cases hz : vs.length ≤ sizeLine
    · rw [if_pos hz] at G1
      refine ⟨by rw [← rxs.len]; exact hz, fun p hp => ?_⟩
      exact G1 μ1 _ (Ext.obj hp) (o1.obj hp) _ (.tup (SqT.of upd_same) (RepL.ext (Ext.obj hp) _ _ rxs))
    · rw [if_neg hz] at G1
      exact G1.elim) fun _ _ h => h⟩
theorem nin_of {K : PySem.W.Frag} {mg : Str → Option Value} {hd : List Addr} {μ : List Addr} {st : Sto} {H : Hp} (ok : StoOk K mg hd μ st H) {p : Addr} (hp : H p = none) : p ∉ μ := fun h => by
  obtain ⟨l, hl⟩ := List.getElem?_of_mem h
  have hs : l < st.length := by rw [← ok.len]; exact (List.getElem?_eq_some_iff.mp hl).1
  obtain ⟨o', ho⟩ := (ok.cell l p _ hl (List.getElem?_eq_getElem hs)).there
  rw [hp] at ho
  cases ho
theorem fresh_of {K : PySem.W.Frag} {mg : Str → Option Value} {hd : List Addr} {μ μ1 : List Addr} {st : Sto} {H H1 : Hp} (ok : StoOk K mg hd μ st H) (e : Ext μ H μ1 H1) (ok1 : StoOk K mg hd μ1 st1 H1) {p : Addr} (hp : H1 p = none) : H p = none := by
  cases q : H p with
  | none => rfl
  | some o =>
    by_cases hm : p ∈ μ
    · obtain ⟨ν, hν⟩ := e.pre
      exact absurd (by rw [hν]; exact List.mem_append_left _ hm) (nin_of ok1 hp)
    · rw [e.out _ _ q hm] at hp
      cases hp
/-- a new list, told by its items -/
theorem nhid_of {K : PySem.W.Frag} {mg : Str → Option Value} {hd : List Addr} {μ : List Addr} {st : Sto} {H : Hp} (ok : StoOk K mg hd μ st H) {p : Addr} (hp : H p = none) : p ∉ hd := fun h => by
  obtain ⟨_, o, h2⟩ := ok.hid p h
  rw [hp] at h2
  cases h2
theorem df_of {μ μ1 : List Addr} {st st1 : Sto} {H H1 : Hp} {vs : List Val} {xs : List V} {Q : VK} {g : Str → Hp → Prop} (ok : StoOk X.K X.mg hd μ st H) (e : Ext μ H μ1 H1) (o1 : StoOk X.K X.mg hd μ1 st1 H1) (rxs : RepL X.K X.mg hd μ1 H1 vs xs)
    (G1 : Good X.K X.mg hd μ1 H1 (.ok (.lst vs) st1) (fun μ' st' H' c => ∀ a, H a = none → a ∉ μ' → a ∉ hd → CellOk X.K X.mg hd μ' H' a c → StoOk X.K X.mg hd (μ' ++ [a]) (st' ++ [c]) H' → Q (.ref a) H') g) (p : Addr) (hp : H1 p = none) : Q (.ref p) (upd H1 p (.lst xs)) :=
  G1 μ1 _ (Ext.obj hp) (o1.obj hp) p (fresh_of ok e o1 hp) (nin_of o1 hp) (nhid_of o1 hp) ⟨xs, upd_same, RepL.ext (Ext.obj hp) _ _ rxs⟩ (o1.new hp ⟨xs, upd_same, RepL.ext (Ext.cell hp) _ _ rxs⟩)
theorem df_lst {es : List Expr} {ms : MA} (h : PA X es (TDA X.K X.mg W ms)) : PE X (.List es pos) (TDF X.K X.mg W (mLst ms)) :=
  PE.imp (pe_lst h) fun σ H Q ⟨hd, μ, ρ, st, S, G⟩ => ⟨hd, μ, ρ, st, S, Good.imp (Good.bind G) (fun μ1 st1 H1 vs e1 o1 G1 xs rxs => by
    by_cases hz : vs.length ≤ sizeLine
    · rw [if_pos hz] at G1
      exact ⟨by rw [← rxs.len]; exact hz, fun p hp => df_of S.sto e1 o1 rxs G1 p hp⟩
    · rw [if_neg hz] at G1
      exact G1.elim) fun _ _ h => h⟩
theorem CellOk.rep {K : PySem.W.Frag} {mg : Str → Option Value} {hd : List Addr} {μ : List Addr} {H : Hp} {a : Addr} {c : Cell} (h : CellOk K mg hd μ H a c) (n : a ∉ μ) (n2 : a ∉ hd) (i : isLD c = true) : Rep K mg hd μ H (.ofCell c) (.ref a) := by
  cases c with
  | lst vs =>
    obtain ⟨xs, h1, h2⟩ := h
    exact .lst h1 n n2 h2
  | dic kvs => exact .dic (.inl h) n n2
  | dit kvs => exact .dit (.inl h) n n2
  | rod kvs => cases i
  | ins c fs => cases i
theorem d_val {e : Expr} {m : MC} (h : PE X e (TDF X.K X.mg W m)) : PE X e (TD X.K X.mg W (mVal m)) :=
  PE.imp h fun σ H Q ⟨hd, μ, ρ, st, S, G⟩ => ⟨hd, μ, ρ, st, S, Good.imp (Good.bind G) (fun μ1 st1 H1 c e1 o1 G1 a ha hn hh hc _ => by
    by_cases hz : isLD c = true
    · rw [if_pos hz] at G1
      exact G1.here o1 _ (hc.rep hn hh hz)
    · rw [if_neg hz] at G1
      exact G1.elim) fun _ _ h => h⟩
theorem d_new {e : Expr} {m : MC} (h : PE X e (TDF X.K X.mg W m)) : PE X e (TD X.K X.mg W (mNew m)) :=
  PE.imp h fun σ H Q ⟨hd, μ, ρ, st, S, G⟩ => ⟨hd, μ, ρ, st, S, by
    unfold mNew at G
    cases hr : m ρ st with
    | ok c st1 =>
      rw [hr] at G
      intro μ1 H1 e1 o1 a ha hn hh hc hs
      have e2 : Ext μ H (μ1 ++ [a]) H1 := by
        obtain ⟨ν, p⟩ := e1.pre
        refine ⟨⟨ν ++ [a], by rw [p, List.append_assoc]⟩, e1.out, e1.tup, e1.frz, fun b hb n => ?_⟩
        rw [List.mem_append, List.mem_singleton] at hb
        rcases hb with hb | hb
        · exact e1.new b hb n
        · rw [hb]
          exact ha
      refine G (μ1 ++ [a]) H1 e2 hs _ (.ref ?_)
      rw [← o1.len, List.getElem?_append_right (Nat.le_refl _), Nat.sub_self]
      rfl
    | exc c st1 => rw [hr] at G; exact G
    | stuck => rw [hr] at G; exact G⟩
end
end DL

namespace DL
open PySem PySem.Spec PyProof.Rows L2

section
variable (K : PySem.W.Frag) (mg : Str → Option Value) (hd : List Addr)
def GoodS (W : WX) (μ : List Addr) (H : Hp) (r : ResS) (D : Ends) : Prop := match r with
  | .next ρ' st' => ∀ μ' H' σ', Ext μ H μ' H' → Sim K mg hd μ' ρ' st' σ' H' → D.nx σ' H'
  | .ret v st' => ∀ μ' H' x, Ext μ H μ' H' → StoOk K mg hd μ' st' H' → Rep K mg hd μ' H' v x → D.rt x H'
  | .brk ρ' st' => ∀ μ' H' σ', Ext μ H μ' H' → Sim K mg hd μ' ρ' st' σ' H' → D.bk σ' H'
  | .cnt ρ' st' => ∀ μ' H' σ', Ext μ H μ' H' → Sim K mg hd μ' ρ' st' σ' H' → D.ct σ' H'
  | .exc c ρ' st' => ∀ μ' H' σ', Ext μ H μ' H' → Sim K mg hd μ' ρ' st' σ' H' → gW mg W σ' c H'
  | .stuck => False
end
section
variable {K : PySem.W.Frag} {mg : Str → Option Value} {hd : List Addr} {μ μ1 μ2 : List Addr} {H H1 H2 : Hp} {ρ : Rho} {st st1 : Sto} {σ : St} {W : WX}
theorem GoodS.ext {r : ResS} {D : Ends} (G : GoodS K mg hd W μ H r D) (e : Ext μ H μ1 H1) : GoodS K mg hd W μ1 H1 r D := by
  cases r with
  | next => exact fun μ' H' σ' e' S => G μ' H' σ' (e.trans e') S
  | ret => exact fun μ' H' σ' e' S => G μ' H' σ' (e.trans e') S
  | brk => exact fun μ' H' σ' e' S => G μ' H' σ' (e.trans e') S
  | cnt => exact fun μ' H' σ' e' S => G μ' H' σ' (e.trans e') S
  | exc => exact fun μ' H' σ' e' S => G μ' H' σ' (e.trans e') S
  | stuck => exact G
theorem TDS_def {m : MS} {D : Ends} : TDS K mg W m D σ H ↔ ∃ hd μ ρ st, Sim K mg hd μ ρ st σ H ∧ GoodS K mg hd W μ H (m ρ st) D := by
  unfold TDS GoodS
  exact Iff.rfl
end

def mNext : MS := fun ρ st => .next ρ st
def mSeq (a b : MS) : MS := fun ρ st => match a ρ st with
  | .next ρ' st' => b ρ' st'
  | r => r
def withE (r : Res Val) (ρ : Rho) (k : Val → Sto → ResS) : ResS := match r with
  | .ok v st => k v st
  | .exc c st => .exc c ρ st
  | .stuck => .stuck
def mSet (i : Nat) (m : ME) : MS := fun ρ st => withE (m ρ st) ρ fun v st1 => .next (ρ.set i (some v)) st1
def mDrop (m : ME) : MS := fun ρ st => withE (m ρ st) ρ fun _ st1 => .next ρ st1
def mRet (m : ME) : MS := fun ρ st => withE (m ρ st) ρ fun v st1 => .ret v st1
def mRetN : MS := fun _ st => .ret .non st
def mIfS (c : MT) (a b : MS) : MS := fun ρ st => match c ρ st with
  | .ok v st1 => if v = true then a ρ st1 else b ρ st1
  | .exc c st1 => .exc c ρ st1
  | .stuck => .stuck
def mBrk : MS := fun ρ st => .brk ρ st
def mCnt : MS := fun ρ st => .cnt ρ st
def mRaise (c : Str) : MS := fun ρ st => .exc c ρ st

section
variable {X : Cx} {W : WX} {st s2 : Stmt} {rest : List Stmt} {e : Expr} {pos : Pos} {m : ME} {a b : MS}
theorem dss_nil : PSs X [] (TDS X.K X.mg W mNext) := PSs.imp pss_nil fun D σ H h => by
  obtain ⟨hd, μ, ρ, st, S, G⟩ := h
  exact G μ H σ Ext.refl S
theorem tSeq_of {D : Ends} {σ : St} {H : Hp} (h : TDS X.K X.mg W (mSeq a b) D σ H) : tSeq (TDS X.K X.mg W a) (TDS X.K X.mg W b) D σ H := by
  obtain ⟨hd, μ, ρ, st, S, G⟩ := TDS_def.mp h
  refine TDS_def.mpr ⟨hd, μ, ρ, st, S, ?_⟩
  unfold mSeq at G
  cases hr : a ρ st with
  | next ρ' st' =>
    rw [hr] at G
    intro μ' H' σ' e' S'
    exact TDS_def.mpr ⟨hd, μ', ρ', st', S', GoodS.ext G e'⟩
  | ret v st' => rw [hr] at G; exact G
  | brk v st' => rw [hr] at G; exact G
  | cnt v st' => rw [hr] at G; exact G
  | exc c v st' => rw [hr] at G; exact G
  | stuck => rw [hr] at G; exact G
theorem dss_cons (h1 : PS X st (TDS X.K X.mg W a)) (h2 : PSs X rest (TDS X.K X.mg W b)) : PSs X (st :: rest) (TDS X.K X.mg W (mSeq a b)) := PSs.imp (pss_cons h1 h2) fun _ _ _ h => tSeq_of h
theorem dss_one (h1 : PS X st (TDS X.K X.mg W a)) : PSs X [st] (TDS X.K X.mg W a) := pss_one h1
theorem withE_of {K : PySem.W.Frag} {mg : Str → Option Value} {hd : List Addr} {r : Res Val} {ρ : Rho} {k : Val → Sto → ResS} {μ : List Addr} {st0 : Sto} {H : Hp} {σ : St} {D : Ends} (S : Sim K mg hd μ ρ st0 σ H) (G : GoodS K mg hd W μ H (withE r ρ k) D) :
    Good K mg hd μ H r (fun μ' st' H' v => Ext μ H μ' H' ∧ GoodS K mg hd W μ' H' (k v st') D) (gW mg W σ) := by
  cases r with
  | ok v st => exact fun μ' H' e o => ⟨e, GoodS.ext G e⟩
  | exc c st => exact fun μ' H' e o => G μ' H' σ e (S.ext e o)
  | stuck => exact G
theorem ds_set {i : Nat} {x : Str} {pos' : Pos} (hN : X.N.Nodup) (hi : X.N[i]? = some x) (hx : Loc X.env.scope x) (he : PE X e (TD X.K X.mg W m)) (hs : swapsWith e (some (.Name x pos')) pos.line X.env = pure false := by rfl)
    (hf : X.fn x = true ∨ X.env.scope.names.lookup x = some .local := by first | exact .inl rfl | exact .inr rfl | assumption) : PS X (.Assign [.Name x pos'] e pos) (TDS X.K X.mg W (mSet i m)) :=
  PS.imp (ps_set hN hi hx he hs hf) fun D σ H h => by
    obtain ⟨hd, μ, ρ, st, S, G⟩ := TDS_def.mp h
    exact ⟨hd, μ, ρ, st, S, Good.imp (withE_of S G) (fun μ1 st1 H1 v e1 o1 G1 x rx => G1.2 μ1 H1 _ Ext.refl ((S.ext e1 o1).set rx)) fun _ _ h => h⟩
theorem ds_expr (he : PE X e (TD X.K X.mg W m)) (hs : swapsWith e none pos.line X.env = pure false := by rfl) : PS X (.Expr e pos) (TDS X.K X.mg W (mDrop m)) :=
  PS.imp (ps_expr he hs) fun D σ H h => by
    obtain ⟨hd, μ, ρ, st, S, G⟩ := TDS_def.mp h
    exact ⟨hd, μ, ρ, st, S, Good.imp (withE_of S G) (fun μ1 st1 H1 v e1 o1 G1 x rx => G1.2 μ1 H1 _ Ext.refl (S.ext e1 o1)) fun _ _ h => h⟩
theorem ds_ret (he : PE X e (TD X.K X.mg W m)) : PS X (.Return (some e) pos) (TDS X.K X.mg W (mRet m)) :=
  PS.imp (ps_ret he) fun D σ H h => by
    obtain ⟨hd, μ, ρ, st, S, G⟩ := TDS_def.mp h
    exact ⟨hd, μ, ρ, st, S, Good.imp (withE_of S G) (fun μ1 st1 H1 v e1 o1 G1 x rx => G1.2 μ1 H1 _ Ext.refl o1 rx) fun _ _ h => h⟩
theorem ds_retN : PS X (.Return none pos) (TDS X.K X.mg W mRetN) :=
  PS.imp ps_retN fun D σ H h => by
    obtain ⟨hd, μ, ρ, st, S, G⟩ := TDS_def.mp h
    exact G μ H _ Ext.refl S.sto .non
theorem ds_pass : PS X (.Pass pos) (TDS X.K X.mg W mNext) := PS.imp ps_pass fun D σ H h => by
  obtain ⟨hd, μ, ρ, st, S, G⟩ := h
  exact G μ H σ Ext.refl S
theorem ds_ifS {c : Expr} {mc : MT} {x y : List Stmt} (hc : PT X c (TDT X.K X.mg W mc)) (ha : PSs X x (TDS X.K X.mg W a)) (hb : PSs X y (TDS X.K X.mg W b)) : PS X (.If c x y pos) (TDS X.K X.mg W (mIfS mc a b)) :=
  PS.imp (ps_if hc ha hb) fun D σ H h => by
    obtain ⟨hd, μ, ρ, st, S, G⟩ := TDS_def.mp h
    refine ⟨hd, μ, ρ, st, S, ?_⟩
    unfold mIfS at G
    cases hr : mc ρ st with
    | ok v st1 =>
      rw [hr] at G
      intro μ1 H1 e1 o1
      cases v with
      | true => exact TDS_def.mpr ⟨hd, μ1, ρ, st1, S.ext e1 o1, GoodS.ext G e1⟩
      | false => exact TDS_def.mpr ⟨hd, μ1, ρ, st1, S.ext e1 o1, GoodS.ext G e1⟩
    | exc c st1 =>
      rw [hr] at G
      exact fun μ1 H1 e1 o1 => G μ1 H1 σ e1 (S.ext e1 o1)
    | stuck => rw [hr] at G; exact G
theorem ds_brk : PS X (.Break pos) (TDS X.K X.mg W mBrk) := PS.imp ps_break fun D σ H h => by
  obtain ⟨hd, μ, ρ, st, S, G⟩ := h
  exact G μ H σ Ext.refl S
theorem ds_cnt : PS X (.Continue pos) (TDS X.K X.mg W mCnt) := PS.imp ps_continue fun D σ H h => by
  obtain ⟨hd, μ, ρ, st, S, G⟩ := h
  exact G μ H σ Ext.refl S
end

/-! ### targets -/
inductive Tg where
  | name (i : Nat) | tup (is : List Nat)
def setAll : List Nat → List Val → Rho → Option Rho
  | [], [], ρ => some ρ
  | i :: is, v :: vs, ρ => setAll is vs (ρ.set i (some v))
  | _, _, _ => none
def Tg.asg : Tg → Val → Rho → Option Rho
  | .name i, v, ρ => some (ρ.set i (some v))
  | .tup is, .tup vs, ρ => setAll is vs ρ
  | _, _, _ => none
/-- the slots behind an assignment: made by setting the target's places -/
inductive SetsOf : List Nat → St → St → Prop
  | nil {σ : St} : SetsOf [] σ σ
  | cons {i : Nat} {is : List Nat} {σ τ : St} {x : V} : SetsOf is (σ.set i (some x)) τ → SetsOf (i :: is) σ τ
def Tg.places : Tg → List Nat
  | .name i => [i]
  | .tup is => is
def TDG (K : PySem.W.Frag) (mg : Str → Option Value) (t : Tg) : TG := fun x σ H Q => ∃ hd μ ρ st v ρ', Sim K mg hd μ ρ st σ H ∧ Rep K mg hd μ H v x ∧ t.asg v ρ = some ρ' ∧ ∀ σ', SetsOf t.places σ σ' → Sim K mg hd μ ρ' st σ' H → Q σ' H
def TDGs (K : PySem.W.Frag) (mg : Str → Option Value) (is : List Nat) : TGs := fun xs σ H Q => ∃ hd μ ρ st vs ρ', Sim K mg hd μ ρ st σ H ∧ RepL K mg hd μ H vs xs ∧ setAll is vs ρ = some ρ' ∧ ∀ σ', SetsOf is σ σ' → Sim K mg hd μ ρ' st σ' H → Q σ' H
section
variable {X : Cx} {pos : Pos}
theorem PG.imp {e : Expr} {t t' : TG} (h : PG X e t) (i : ∀ v σ H Q, t' v σ H Q → t v σ H Q) : PG X e t' := ⟨fun pins s σ H v u Q I r q => h.run pins s σ H v u Q I r (i _ _ _ _ q)⟩
theorem PGs.imp {e : List Expr} {t t' : TGs} (h : PGs X e t) (i : ∀ v σ H Q, t' v σ H Q → t v σ H Q) : PGs X e t' := ⟨fun pins s σ H v u Q I r q => h.run pins s σ H v u Q I r (i _ _ _ _ q)⟩
theorem dg_name {i : Nat} {x : Str} (hN : X.N.Nodup) (hi : X.N[i]? = some x) (hx : Loc X.env.scope x) (hf : X.fn x = true ∨ X.env.scope.names.lookup x = some .local := by first | exact .inl rfl | exact .inr rfl | assumption) : PG X (.Name x pos) (TDG X.K X.mg (.name i)) :=
  PG.imp (pg_name hN hi hx hf) fun v σ H Q ⟨hd, μ, ρ, st, w, ρ', S, r, h, q⟩ => by
    cases h
    exact q _ (.cons .nil) (S.set r)
theorem dgs_nil : PGs X [] (TDGs X.K X.mg []) := PGs.imp pgs_nil fun v σ H Q ⟨hd, μ, ρ, st, w, ρ', S, r, h, q⟩ => by
  cases r with
  | nil =>
    cases h
    exact ⟨rfl, q _ .nil S⟩
  | cons => cases h
theorem dgs_cons {i : Nat} {is : List Nat} {e : Expr} {es : List Expr} (h1 : PG X e (TDG X.K X.mg (.name i))) (h2 : PGs X es (TDGs X.K X.mg is))
    (hs : (assignEach (e :: es) X.env).map (·.2) = assign e X.env :: (assignEach es X.env).map (·.2) := by rfl) : PGs X (e :: es) (TDGs X.K X.mg (i :: is)) :=
  PGs.imp (pgs_cons h1 h2 hs) fun v σ H Q ⟨hd, μ, ρ, st, w, ρ', S, r, h, q⟩ => by
    cases r with
    | nil => cases h
    | cons r1 r2 =>
      refine ⟨_, _, rfl, hd, μ, ρ, st, _, _, S, r1, rfl, fun σ' ho S' => ?_⟩
      refine ⟨hd, μ, _, st, _, ρ', S', r2, h, fun σ2 h2 S2 => q _ ?_ S2⟩
      cases ho with
      | cons h3 =>
        cases h3
        exact .cons h2
theorem dg_tup {es : List Expr} {k : Nat} {is : List Nat} (hc : X.calm = true) (h : PGs X es (TDGs X.K X.mg is)) (hl : es.length = is.length := by rfl)
    (hn : (assignEach es X.env).length = is.length := by rfl) (hst : (assignEach es X.env).findIdx? (·.1) = none := by rfl) : PG X (.Tuple es k pos) (TDG X.K X.mg (.tup is)) :=
  PG.imp (pg_tup hc h hn hst) fun v σ H Q ⟨hd, μ, ρ, st, w, ρ', S, r, h, q⟩ => by
    cases r with
    | tup r1 r2 =>
      refine ⟨_, _, rfl, r1, ?_, hd, μ, ρ, st, _, ρ', S, r2, h, q⟩
      rw [← r2.len]
      have : ∀ (is : List Nat) (vs : List Val) (ρ ρ' : Rho), setAll is vs ρ = some ρ' → vs.length = is.length := by
        intro is
        induction is with
        | nil => intro vs ρ ρ' h; cases vs with
          | nil => rfl
          | cons => cases h
        | cons i is ih => intro vs ρ ρ' h; cases vs with
          | nil => cases h
          | cons v vs => rw [List.length_cons, List.length_cons, ih _ _ _ h]
      exact this _ _ _ _ h
    | _ => cases h
end
/-- target = value -/
def mAsg (t : Tg) (m : ME) : MS := fun ρ st => withE (m ρ st) ρ fun v st1 => match t.asg v ρ with
  | some ρ' => .next ρ' st1
  | none => .stuck
section
variable {X : Cx} {W : WX} {pos : Pos} {e tg : Expr} {m : ME} {t : Tg}
theorem ds_asg (he : PE X e (TD X.K X.mg W m)) (hg : PG X tg (TDG X.K X.mg t)) (hs : swapsWithSole [tg] e pos.line X.env = pure false := by rfl) (hw : swappedStores [tg] e X.env = pure none := by rfl)
    (h1 : (assignEach [tg] X.env).map (·.2) = [assign tg X.env] := by rfl) : PS X (.Assign [tg] e pos) (TDS X.K X.mg W (mAsg t m)) :=
  PS.imp (ps_asg he hg hs hw h1) fun D σ H h => by
    obtain ⟨hd, μ, ρ, st, S, G⟩ := TDS_def.mp h
    refine ⟨hd, μ, ρ, st, S, Good.imp (withE_of S G) (fun μ1 st1 H1 v e1 o1 G1 x rx => ?_) fun _ _ h => h⟩
    cases hr : t.asg v ρ with
    | none => rw [hr] at G1; exact G1.2.elim
    | some ρ' =>
      rw [hr] at G1
      exact ⟨hd, μ1, ρ, st1, v, ρ', S.ext e1 o1, rx, hr, fun σ' _ S' => G1.2 μ1 H1 σ' Ext.refl S'⟩
/-- a, b = x, y with plain local names -/
def mPar (i j : Nat) (ms : MA) : MS := fun ρ st => match ms ρ st with
  | .ok [v, w] st1 => .next ((ρ.set i (some v)).set j (some w)) st1
  | .exc c st1 => .exc c ρ st1
  | _ => .stuck
theorem ds_par {i j : Nat} {x y : Str} {a b : Expr} {ma : MA} {px py pt : Pos} {kt k2 pt2} (hc : X.calm = true) (hN : X.N.Nodup) (hi : X.N[i]? = some x) (hj : X.N[j]? = some y) (hij : i ≠ j)
    (hx : X.env.scope.names.lookup x = some .local) (hy : X.env.scope.names.lookup y = some .local) (ha : PA X [a, b] (TDA X.K X.mg W ma))
    (hw : swappedStores [.Tuple [.Name x px, .Name y py] kt pt] (.Tuple [a, b] k2 pt2) X.env = pure (some [x, y]))
    (hs : swapsWithSole [.Tuple [.Name x px, .Name y py] kt pt] (.Tuple [a, b] k2 pt2) pos.line X.env = pure false := by rfl) :
    PS X (.Assign [.Tuple [.Name x px, .Name y py] kt pt] (.Tuple [a, b] k2 pt2) pos) (TDS X.K X.mg W (mPar i j ma)) :=
  PS.imp (ps_par hc hN hi hj hij hx hy ha hw hs) fun D σ H h => by
    obtain ⟨hd, μ, ρ, st, S, G⟩ := TDS_def.mp h
    refine ⟨hd, μ, ρ, st, S, ?_⟩
    unfold mPar at G
    cases hr : ma ρ st with
    | stuck => rw [hr] at G; exact G
    | exc c st1 => rw [hr] at G; exact fun μ1 H1 e1 o1 => G μ1 H1 σ e1 (S.ext e1 o1)
    | ok vs st1 =>
      rw [hr] at G
      match vs, G with
      | [], G => exact G.elim
      | [v], G => exact G.elim
      | v :: w :: u :: r, G => exact G.elim
      | [v, w], G =>
        intro μ1 H1 e1 o1 xs rxs
        cases rxs with
        | cons r1 r2 =>
          cases r2 with
          | cons r2 r3 =>
            cases r3
            exact ⟨_, _, rfl, G μ1 H1 _ e1 (((S.ext e1 o1).set r1).set r2)⟩
end
end DL

namespace DL
open PySem PySem.Spec PyProof.Rows L2

/-! ### what is known of a state -/
theorem PE.facts {X : Cx} {e : Expr} {t : TE} {F : V → Hp → Prop} (h : PE X e t) (hF : ∀ pins s σ H v, Inv X pins σ H s → F v H) : PE X e (fun σ H Q => t σ H fun v H' => F v H' → Q v H') :=
  ⟨fun pins s σ H Q I q => thn (h.run pins s σ H _ I q) fun u s' ⟨v, H', I', r, k⟩ => ⟨v, H', I', r, k (hF pins s' σ H' v I')⟩⟩
theorem PA.facts {X : Cx} {e : List Expr} {t : TA} {F : List V → Hp → Prop} (h : PA X e t) (hF : ∀ pins s σ H v, Inv X pins σ H s → F v H) : PA X e (fun σ H Q => t σ H fun v H' => F v H' → Q v H') :=
  ⟨fun pos pins s σ H Q I q => thn (h.run pos pins s σ H _ I q) fun u s' ⟨v, H', I', r, k⟩ => ⟨v, H', I', r, k (hF pins s' σ H' v I')⟩⟩
/-- lists, tuples are no longer than may be -/
def Sz (K : PySem.W.Frag) (H : Hp) : Prop := ∀ a xs, (SqL K H a xs ∨ SqT K H a xs) → xs.length ≤ sizeLine
theorem sz_of {X : Cx} {pins : List (Addr × Obj)} {s : Shared} {σ : St} {H : Hp} (I : Inv X pins σ H s) : Sz X.K H := fun a xs h => by
  rcases h with h | h
  · obtain ⟨its, _, _, z⟩ := I.list h
    exact z
  · obtain ⟨its, _, _, z⟩ := I.tuple h
    exact z

/-! ### what is walked -/
structure Walk where
  items : List Val
  guard : Option (Nat × Cell)
def Guard (st : Sto) : Option (Nat × Cell) → Prop
  | none => True
  | some (l, c) => st[l]? = some c
abbrev MI := Rho → Sto → Res Walk
/-- what else is hidden: it is new -/
def Hid (hd hd' : List Addr) (H : Hp) : Prop := ∀ b, b ∈ hd' → b ∈ hd ∨ H b = none
theorem Hid.self {hd : List Addr} {H : Hp} : Hid hd hd H := fun _ h => .inl h
section
variable {K : PySem.W.Frag} {mg : Str → Option Value} {hd hd' : List Addr} {μ : List Addr} {H : Hp}
theorem Hid.nin (h : Hid hd hd' H) {a : Addr} (n : a ∉ hd) {o : HO} (e : H a = some o) : a ∉ hd' := fun q => by
  rcases h a q with z | z
  · exact n z
  · rw [e] at z
    cases z
mutual
theorem Rep.rehide (hh : Hid hd hd' H) : ∀ (v : Val) (x : V), Rep K mg hd μ H v x → Rep K mg hd' μ H v x
  | .non, _, h => by cases h; exact .non
  | .bl b, _, h => by cases h; exact .bl b
  | .int i, _, h => by cases h; exact .int i
  | .str i, _, h => by cases h; exact .str i
  | .tup vs, _, h => by
    cases h with
    | tup h1 h2 => exact .tup h1 (RepL.rehide hh vs _ h2)
  | .tpl vs, _, h => by
    cases h with
    | tpl h1 h2 => exact .tpl h1 (RepL.rehide hh vs _ h2)
  | .tpk vs, _, h => by
    cases h with
    | tpk h1 h2 h0 h3 => exact .tpk h1 h2 (hh.nin h0 h1) (RepL.rehide hh vs _ h3)
  | .lst vs, _, h => by
    cases h with
    | lst h1 h2 h0 h3 => exact .lst h1 h2 (hh.nin h0 h1) (RepL.rehide hh vs _ h3)
  | .rol vs, _, h => by
    cases h with
    | rol h1 h2 => exact .rol h1 (RepL.rehide hh vs _ h2)
  | .dic kvs, _, h => by
    cases h with
    | dic h1 h2 h0 =>
      obtain ⟨q, hq⟩ := Rd.some h1
      exact .dic h1 h2 (hh.nin h0 hq)
  | .dit kvs, _, h => by
    cases h with
    | dit h1 h2 h0 =>
      obtain ⟨q, hq⟩ := Rd.some h1
      exact .dit h1 h2 (hh.nin h0 hq)
  | .ref l, _, h => by
    cases h with
    | ref h1 => exact .ref h1
  | .fn x, _, h => by
    cases h with
    | fn h1 => exact .fn h1
theorem RepL.rehide (hh : Hid hd hd' H) : ∀ (vs : List Val) (xs : List V), RepL K mg hd μ H vs xs → RepL K mg hd' μ H vs xs
  | [], _, h => by cases h; exact .nil
  | v :: vs, _, h => by
    cases h with
    | cons h1 h2 => exact .cons (Rep.rehide hh v _ h1) (RepL.rehide hh vs _ h2)
end
end
structure Wk (K : PySem.W.Frag) (mg : Str → Option Value) (hd : List Addr) (μ0 : List Addr) (H0 : Hp) (J : It) (w : Walk) : Prop where
  go : ∀ hd' (_ : Hid hd hd' H0) i μ st H, Ext μ0 H0 μ H → StoOk K mg hd' μ st H → Guard st w.guard → i < w.items.length → J.go i H
  stop : ∀ hd' (_ : Hid hd hd' H0) i μ st H, Ext μ0 H0 μ H → StoOk K mg hd' μ st H → Guard st w.guard → w.items.length ≤ i → J.stop i H
  yld : ∀ hd' (_ : Hid hd hd' H0) i μ st H x H2, Ext μ0 H0 μ H → StoOk K mg hd' μ st H → Guard st w.guard → J.yld i H x H2 → i < w.items.length → ∃ v, w.items[i]? = some v ∧ Ext μ H μ H2 ∧ StoOk K mg hd' μ st H2 ∧ Rep K mg hd' μ H2 v x
  len : w.items.length ≤ sizeLine
def TDI (K : PySem.W.Frag) (mg : Str → Option Value) (W : WX) (m : MI) : TI := fun σ H R => ∃ hd μ ρ st, Sim K mg hd μ ρ st σ H ∧ Good K mg hd μ H (m ρ st) (fun μ' _ H' w => ∀ J, Wk K mg hd μ' H' J w → R J H') (gW mg W σ)
theorem PI.imp {X : Cx} {tg e : Expr} {t t' : TI} (h : PI X tg e t) (i : ∀ σ H R, t' σ H R → t σ H R) : PI X tg e t' := ⟨fun pins s σ H R I q => h.run pins s σ H R I (i _ _ _ q)⟩

section
variable {K : PySem.W.Frag} {mg : Str → Option Value} {hd : List Addr} {μ : List Addr} {H : Hp} {st : Sto}
theorem wk_tup {a : Addr} {vs : List Val} {xs : List V} (h : SqT K H a xs) (r : RepL K mg hd μ H vs xs) (z : xs.length ≤ sizeLine) : Wk K mg hd μ H (Itt K a) ⟨vs, none⟩ where
  go hd' hh i μ' st' H' e _ _ hi := by
    have hi : i < xs.length := by rw [← r.len]; exact hi
    exact ⟨xs, xs[i], e.sqT h, List.getElem?_eq_getElem hi⟩
  stop hd' hh i μ' st' H' e _ _ hi := ⟨xs, e.sqT h, by rw [← r.len]; exact hi⟩
  yld hd' hh i μ' st' H' x H2 e o _ hy hi := by
    obtain ⟨rfl, hx⟩ := hy
    obtain ⟨v, hv, rv⟩ := (RepL.ext e _ _ (RepL.rehide hh _ _ r)).get' (hx xs (e.sqT h))
    exact ⟨v, hv, Ext.refl, o, rv⟩
  len := by rw [r.len]; exact z
theorem wk_list {a : Addr} {vs : List Val} {xs : List V} (h : ∀ μ' H', Ext μ H μ' H' → SqL K H' a xs) (r : RepL K mg hd μ H vs xs) (z : xs.length ≤ sizeLine) : Wk K mg hd μ H (Itl K a) ⟨vs, none⟩ where
  go hd' hh i μ' st' H' e _ _ hi := by
    have hi : i < xs.length := by rw [← r.len]; exact hi
    exact ⟨xs, xs[i], h _ _ e, List.getElem?_eq_getElem hi⟩
  stop hd' hh i μ' st' H' e _ _ hi := ⟨xs, h _ _ e, by rw [← r.len]; exact hi⟩
  yld hd' hh i μ' st' H' x H2 e o _ hy hi := by
    obtain ⟨rfl, hx⟩ := hy
    obtain ⟨v, hv, rv⟩ := (RepL.ext e _ _ (RepL.rehide hh _ _ r)).get' (hx xs (h _ _ e))
    exact ⟨v, hv, Ext.refl, o, rv⟩
  len := by rw [r.len]; exact z
theorem wk_cell {a : Addr} {l : Nat} {vs : List Val} (hl : μ[l]? = some a) (z : vs.length ≤ sizeLine) : Wk K mg hd μ H (Itl K a) ⟨vs, some (l, .lst vs)⟩ where
  go hd' hh i μ' st' H' e o g hi := by
    obtain ⟨xs, h, r⟩ := o.cell l a _ (e.idx hl) g
    have hi : i < xs.length := by rw [← r.len]; exact hi
    exact ⟨xs, xs[i], SqL.of h, List.getElem?_eq_getElem hi⟩
  stop hd' hh i μ' st' H' e o g hi := by
    obtain ⟨xs, h, r⟩ := o.cell l a _ (e.idx hl) g
    exact ⟨xs, SqL.of h, by rw [← r.len]; exact hi⟩
  yld hd' hh i μ' st' H' x H2 e o g hy hi := by
    obtain ⟨rfl, hx⟩ := hy
    obtain ⟨xs, h, r⟩ := o.cell l a _ (e.idx hl) g
    obtain ⟨v, hv, rv⟩ := r.get' (hx xs (SqL.of h))
    exact ⟨v, hv, Ext.refl, o, rv⟩
  len := z
def rng (lo : Int) (n : Nat) : List Val := (List.range n).map fun i => Val.int (lo + (i : Nat))
theorem rng_len (lo : Int) (n : Nat) : (rng lo n).length = n := by simp [rng]
theorem wk_rng {lo : Int} {n : Nat} (z : n ≤ sizeLine) : Wk K mg hd μ H (Itr lo n) ⟨rng lo n, none⟩ where
  go hd' hh i μ' st' H' e _ _ hi := by
    show i < n
    simpa [rng] using hi
  stop hd' hh i μ' st' H' e _ _ hi := by
    show n ≤ i
    simpa [rng] using hi
  yld hd' hh i μ' st' H' x H2 e o _ hy hi := by
    obtain ⟨rfl, rfl⟩ := hy
    have hi : i < n := by simpa [rng] using hi
    exact ⟨.int (lo + (i : Nat)), by simp [rng, hi], Ext.refl, o, .int _⟩
  len := by rw [rng_len]; exact z
end

/-- a tuple's, a list's items -/
def itemsT : Val → Sto → Res Walk
  | .tup vs, st => .ok ⟨vs, none⟩ st
  | _, _ => .stuck
def itemsL : Val → Sto → Res Walk
  | .lst vs, st => .ok ⟨vs, none⟩ st
  | .rol vs, st => .ok ⟨vs, none⟩ st
  | .ref l, st => match st[l]? with
    | some (.lst vs) => .ok ⟨vs, some (l, .lst vs)⟩ st
    | _ => .stuck
  | _, _ => .stuck
def mItT (m : ME) : MI := fun ρ st => (m ρ st).bind itemsT
def mItL (m : ME) : MI := fun ρ st => (m ρ st).bind itemsL
noncomputable def mRng1 (m : ME) : MI := fun ρ st => (m ρ st).bind fun v st1 => match v with
  | .int n => @ite _ (-1000000 ≤ n ∧ n ≤ 1000000) (Classical.propDecidable _) (.ok ⟨rng 0 n.toNat, none⟩ st1) .stuck
  | _ => .stuck
noncomputable def mRng2 (a b : ME) : MI := fun ρ st => (a ρ st).bind fun v st1 => (b ρ st1).bind fun w st2 => match v, w with
  | .int i, .int j => @ite _ (-1000000 ≤ i ∧ i ≤ 1000000 ∧ -1000000 ≤ j ∧ j ≤ 1000000) (Classical.propDecidable _) (.ok ⟨rng i (j - i).toNat, none⟩ st2) .stuck
  | _, _ => .stuck

section
variable {X : Cx} {W : WX} {tg e : Expr} {m : ME}
theorem di_tup (h : PE X e (TD X.K X.mg W m)) : PI X tg e (TDI X.K X.mg W (mItT m)) :=
  PI.imp (pi_tup (PE.facts (F := fun _ H => Sz X.K H) h fun _ _ _ _ _ I => sz_of I)) fun σ H R ⟨hd, μ, ρ, st, S, G⟩ => ⟨hd, μ, ρ, st, S, Good.imp (Good.bind G) (fun μ1 st1 H1 v e1 o1 G1 x rx z => by
    cases rx with
    | tup r1 r2 => exact ⟨_, rfl, ⟨_, r1⟩, G1.here o1 _ (wk_tup r1 r2 (z _ _ (.inr r1)))⟩
    | _ => exact G1.elim) fun _ _ h => h⟩
theorem di_list (h : PE X e (TD X.K X.mg W m)) : PI X tg e (TDI X.K X.mg W (mItL m)) :=
  PI.imp (pi_list (PE.facts (F := fun _ H => Sz X.K H) h fun _ _ _ _ _ I => sz_of I)) fun σ H R ⟨hd, μ, ρ, st, S, G⟩ => ⟨hd, μ, ρ, st, S, Good.imp (Good.bind G) (fun μ1 st1 H1 v e1 o1 G1 x rx z => by
    cases rx with
    | lst r1 r2 r0 r3 => exact ⟨_, rfl, ⟨_, SqL.of r1⟩, G1.here o1 _ (wk_list (fun μ' H' e => SqL.of (e.out _ _ r1 r2)) r3 (z _ _ (.inl (SqL.of r1))))⟩
    | rol r1 r2 => exact ⟨_, rfl, ⟨_, r1.sq⟩, G1.here o1 _ (wk_list (fun μ' H' e => (e.frzL r1).sq) r2 (z _ _ (.inl r1.sq)))⟩
    | @ref l a r1 =>
      unfold itemsL at G1
      cases hc : st1[l]? with
      | none => simp only [hc] at G1; exact G1.elim
      | some c =>
        cases c with
        | lst vs =>
          simp only [hc] at G1
          obtain ⟨xs, h1, h2⟩ := o1.cell l a _ r1 hc
          exact ⟨_, rfl, ⟨_, SqL.of h1⟩, G1.here o1 _ (wk_cell r1 (by rw [h2.len]; exact z _ _ (.inl (SqL.of h1))))⟩
        | _ => simp only [hc] at G1; exact G1.elim
    | _ => exact G1.elim) fun _ _ h => h⟩
theorem sz16 : sizeLine = 16777216 := by decide
theorem di_rng1 {a : Expr} {p pos : Pos} (hg : Gl X "range") (hm : X.mg "range" = none) (ha : PE X a (TD X.K X.mg W m)) (hs : starEach [a] X.env = [(false, eval a X.env)] := by rfl) :
    PI X tg (.Call (.Name "range" p) [a] [] pos) (TDI X.K X.mg W (mRng1 m)) :=
  PI.imp (pi_range1 hg hm (pa_cons ha pa_nil hs) hs) fun σ H R ⟨hd, μ, ρ, st, S, G⟩ => ⟨hd, μ, ρ, st, S, Good.imp (Good.bind G) (fun μ1 st1 H1 v e1 o1 G1 x rx => by
    cases rx with
    | int n =>
      by_cases hn : -1000000 ≤ n ∧ n ≤ 1000000
      · simp only [if_pos hn] at G1
        exact ⟨n, rfl, by omega, by omega, G1.here o1 _ (wk_rng (by rw [sz16]; omega))⟩
      · simp only [if_neg hn] at G1
        exact G1.elim
    | _ => exact G1.elim) fun _ _ h => h⟩
theorem di_rng2 {a b : Expr} {ma mb : ME} {p pos : Pos} (hg : Gl X "range") (hm : X.mg "range" = none) (ha : PE X a (TD X.K X.mg W ma)) (hb : PE X b (TD X.K X.mg W mb)) (hs : starEach [a, b] X.env = [(false, eval a X.env), (false, eval b X.env)] := by rfl) (hs2 : starEach [b] X.env = [(false, eval b X.env)] := by rfl) :
    PI X tg (.Call (.Name "range" p) [a, b] [] pos) (TDI X.K X.mg W (mRng2 ma mb)) :=
  PI.imp (pi_range2 hg hm (pa_cons ha (pa_cons hb pa_nil hs2) (by rw [hs, hs2])) hs hs2) fun σ H R ⟨hd, μ, ρ, st, S, G⟩ => ⟨hd, μ, ρ, st, S, Good.imp (Good.bind G) (fun μ1 st1 H1 v e1 o1 G1 x rx =>
    ⟨hd, μ1, ρ, st1, S.ext e1 o1, Good.imp (Good.bind G1) (fun μ2 st2 H2 w e2 o2 G2 y ry => by
      cases ry with
      | int j =>
        cases rx with
        | int i =>
          by_cases hn : -1000000 ≤ i ∧ i ≤ 1000000 ∧ -1000000 ≤ j ∧ j ≤ 1000000
          · simp only [if_pos hn] at G2
            exact ⟨i, j, rfl, by omega, G2.here o2 _ (wk_rng (by rw [sz16]; omega))⟩
          · simp only [if_neg hn] at G2
            exact G2.elim
        | _ => exact G2.elim
      | _ => cases v <;> exact G2.elim) fun _ _ h => h⟩) fun _ _ h => h⟩
end

/-! ### for -/
open Classical in
noncomputable def loop (t : Tg) (body : MS) (g : Option (Nat × Cell)) : List Val → Rho → Sto → ResS
  | [], ρ, st => if Guard st g then .next ρ st else .stuck
  | v :: vs, ρ, st => if Guard st g then (match t.asg v ρ with
    | none => .stuck
    | some ρ' => match body ρ' st with
      | .next ρ2 st2 => loop t body g vs ρ2 st2
      | .cnt ρ2 st2 => loop t body g vs ρ2 st2
      | .brk ρ2 st2 => .next ρ2 st2
      | r => r) else .stuck
noncomputable def mFor (mi : MI) (t : Tg) (body : MS) : MS := fun ρ st => match mi ρ st with
  | .ok w st1 => loop t body w.guard w.items ρ st1
  | .exc c st1 => .exc c ρ st1
  | .stuck => .stuck
theorem loop_of {K : PySem.W.Frag} {mg : Str → Option Value} {hd : List Addr} {W : WX} {t : Tg} {body : MS} {w : Walk} {μ0 : List Addr} {H0 : Hp} {J : It} {D : Ends} (k : Wk K mg hd μ0 H0 J w) {ρ : Rho} {st : Sto} {σ : St} (S : Sim K mg hd μ0 ρ st σ H0)
    (G : GoodS K mg hd W μ0 H0 (loop t body w.guard w.items ρ st) D) :
    ∃ I : Nat → Nat → St → Hp → Prop, (∃ m, I 0 m σ H0) ∧ ∀ i m σ H, I i m σ H →
      (J.stop i H ∧ D.nx σ H) ∨ (J.go i H ∧ ∃ N : St → Hp → Prop, (∀ σ' H', N σ' H' → ∃ m', m' < m ∧ I (i + 1) m' σ' H') ∧ ∀ x H', J.yld i H x H' → TDG K mg t x σ H' fun σ2 H2 => TDS K mg W body { D with nx := N, ct := N, bk := D.nx } σ2 H2) := by
  refine ⟨fun i m σ H => i + m = w.items.length ∧ ∃ μ ρ st, Ext μ0 H0 μ H ∧ Sim K mg hd μ ρ st σ H ∧ GoodS K mg hd W μ H (loop t body w.guard (w.items.drop i) ρ st) D, ⟨w.items.length, by omega, μ0, ρ, st, Ext.refl, S, G⟩, ?_⟩
  rintro i m σ H ⟨hm, μ, ρ, st, e, S, G⟩
  cases hdp : w.items.drop i with
  | nil =>
    rw [hdp] at G
    have hi : w.items.length ≤ i := List.drop_eq_nil_iff.mp hdp
    unfold loop at G
    by_cases hg : Guard st w.guard
    · rw [if_pos hg] at G
      exact .inl ⟨k.stop hd Hid.self i μ st H e S.sto hg hi, G μ H σ Ext.refl S⟩
    · rw [if_neg hg] at G
      exact G.elim
  | cons v vs =>
    rw [hdp] at G
    have hi : i < w.items.length := by
      by_cases q : i < w.items.length
      · exact q
      · rw [List.drop_eq_nil_of_le (by omega)] at hdp
        cases hdp
    have hv : w.items[i]? = some v := by
      have := congrArg List.head? hdp
      rw [List.head?_drop] at this
      exact this
    have hvs : w.items.drop (i + 1) = vs := by
      have := congrArg List.tail hdp
      rw [List.tail_drop] at this
      exact this
    unfold loop at G
    by_cases hg : Guard st w.guard
    · rw [if_pos hg] at G
      refine .inr ⟨k.go hd Hid.self i μ st H e S.sto hg hi, fun σ' H' => (i + 1) + (m - 1) = w.items.length ∧ ∃ μ ρ st, Ext μ0 H0 μ H' ∧ Sim K mg hd μ ρ st σ' H' ∧ GoodS K mg hd W μ H' (loop t body w.guard (w.items.drop (i + 1)) ρ st) D, fun σ' H' h => ⟨m - 1, by omega, h⟩, fun x H' hy => ?_⟩
      obtain ⟨v', hv', e2, o2, rv⟩ := k.yld hd Hid.self i μ st H x H' e S.sto hg hy hi
      rw [hv] at hv'
      cases hv'
      cases ha : t.asg v ρ with
      | none => rw [ha] at G; exact G.elim
      | some ρ' =>
        rw [ha] at G
        dsimp only at G
        refine ⟨hd, μ, ρ, st, v, ρ', S.ext e2 o2, rv, ha, fun σ' _ S' => TDS_def.mpr ⟨hd, μ, ρ', st, S', ?_⟩⟩
        have G := GoodS.ext G e2
        rw [hvs]
        cases hb : body ρ' st with
        | next ρ2 st2 =>
          rw [hb] at G
          exact fun μ3 H3 σ3 e3 S3 => ⟨by omega, μ3, ρ2, st2, (e.trans e2).trans e3, S3, GoodS.ext G e3⟩
        | cnt ρ2 st2 =>
          rw [hb] at G
          exact fun μ3 H3 σ3 e3 S3 => ⟨by omega, μ3, ρ2, st2, (e.trans e2).trans e3, S3, GoodS.ext G e3⟩
        | brk ρ2 st2 => rw [hb] at G; exact G
        | ret v st2 => rw [hb] at G; exact G
        | exc c ρ2 st2 => rw [hb] at G; exact G
        | stuck => rw [hb] at G; exact G
    · rw [if_neg hg] at G
      exact G.elim
section
variable {X : Cx} {W : WX} {tg iter : Expr} {body : List Stmt} {mi : MI} {t : Tg} {mb : MS} {pos : Pos}
theorem tFor_of {D : Ends} {σ : St} {H : Hp} (h : TDS X.K X.mg W (mFor mi t mb) D σ H) : tFor (TDI X.K X.mg W mi) (TDG X.K X.mg t) (TDS X.K X.mg W mb) D σ H := by
  obtain ⟨hd, μ, ρ, st, S, G⟩ := TDS_def.mp h
  refine ⟨hd, μ, ρ, st, S, ?_⟩
  unfold mFor at G
  cases hr : mi ρ st with
  | stuck => rw [hr] at G; exact G
  | exc c st1 => rw [hr] at G; exact fun μ1 H1 e1 o1 => G μ1 H1 σ e1 (S.ext e1 o1)
  | ok w st1 =>
    rw [hr] at G
    exact fun μ1 H1 e1 o1 J k => loop_of k (S.ext e1 o1) (GoodS.ext G e1)
theorem ds_for (hp : PassesOwn (model X.prog X.w) X.A X.env X.xe) (hc : X.calm = true) (hi : PI X tg iter (TDI X.K X.mg W mi)) (hg : PG X tg (TDG X.K X.mg t)) (hb : PSs X body (TDS X.K X.mg W mb)) (hs : ∀ x, foldedSetIterable iter X.env x = pure x := by intro _; rfl) :
    PS X (.For tg iter body [] pos) (TDS X.K X.mg W (mFor mi t mb)) := PS.imp (ps_for hp hc hi hg hb hs) fun _ _ _ h => tFor_of h
end

/-! ### while -/
def whileN (c : MT) (body : MS) : Nat → Rho → Sto → ResS
  | 0, _, _ => .stuck
  | n + 1, ρ, st => match c ρ st with
    | .ok b st1 => if b = true then (match body ρ st1 with
      | .next ρ2 st2 => whileN c body n ρ2 st2
      | .cnt ρ2 st2 => whileN c body n ρ2 st2
      | .brk ρ2 st2 => .next ρ2 st2
      | r => r) else .next ρ st1
    | .exc c st1 => .exc c ρ st1
    | .stuck => .stuck
def ResS.done : ResS → Prop
  | .stuck => False
  | _ => True
theorem whileN_mono {c : MT} {body : MS} : ∀ {n : Nat} {ρ : Rho} {st : Sto}, (whileN c body n ρ st).done → whileN c body (n + 1) ρ st = whileN c body n ρ st
  | 0, _, _, h => h.elim
  | n + 1, ρ, st, h => by
    unfold whileN at h
    rw [whileN, whileN]
    cases hc : c ρ st with
    | stuck => rfl
    | exc => rfl
    | ok b st1 =>
      simp only [hc] at h ⊢
      cases b with
      | false => rfl
      | true =>
        simp only [if_true] at h ⊢
        cases hb : body ρ st1 with
        | next ρ2 st2 => simp only [hb] at h ⊢; exact whileN_mono h
        | cnt ρ2 st2 => simp only [hb] at h ⊢; exact whileN_mono h
        | _ => rfl
theorem whileN_le {c : MT} {body : MS} {n m : Nat} {ρ : Rho} {st : Sto} (h : (whileN c body n ρ st).done) (le : n ≤ m) : whileN c body m ρ st = whileN c body n ρ st := by
  induction le with
  | refl => rfl
  | step _ ih => rw [whileN_mono (by rw [ih]; exact h), ih]
open Classical in
noncomputable def mWhile (c : MT) (body : MS) : MS := fun ρ st => if h : ∃ n, (whileN c body n ρ st).done then whileN c body h.choose ρ st else .stuck
theorem mWhile_eq {c : MT} {body : MS} {n : Nat} {ρ : Rho} {st : Sto} (h : (whileN c body n ρ st).done) : mWhile c body ρ st = whileN c body n ρ st := by
  unfold mWhile
  have hx : ∃ n, (whileN c body n ρ st).done := ⟨n, h⟩
  rw [dif_pos hx]
  rcases Nat.le_total n hx.choose with le | le
  · exact whileN_le h le
  · exact (whileN_le hx.choose_spec le).symm
section
variable {X : Cx} {W : WX} {c : Expr} {body : List Stmt} {mc : MT} {mb : MS} {pos : Pos}
theorem tWhile_of {D : Ends} {σ : St} {H : Hp} (h : TDS X.K X.mg W (mWhile mc mb) D σ H) : tWhile (TDT X.K X.mg W mc) (TDS X.K X.mg W mb) D σ H := by
  obtain ⟨hd, μ, ρ, st, S, G⟩ := TDS_def.mp h
  have hx : ∃ n, GoodS X.K X.mg hd W μ H (whileN mc mb n ρ st) D := by
    unfold mWhile at G
    by_cases h : ∃ n, (whileN mc mb n ρ st).done
    · rw [dif_pos h] at G; exact ⟨_, G⟩
    · rw [dif_neg h] at G; exact G.elim
  obtain ⟨n, G⟩ := hx
  refine ⟨fun m σ H => ∃ hd μ ρ st, Sim X.K X.mg hd μ ρ st σ H ∧ GoodS X.K X.mg hd W μ H (whileN mc mb m ρ st) D, ⟨n, hd, μ, ρ, st, S, G⟩, ?_⟩
  clear S G h
  rintro m σ H ⟨hd, μ, ρ, st, S, G⟩
  refine ⟨hd, μ, ρ, st, S, ?_⟩
  cases m with
  | zero => exact G.elim
  | succ m =>
    unfold whileN at G
    cases hc : mc ρ st with
    | stuck => rw [hc] at G; exact G
    | exc c st1 => rw [hc] at G; exact fun μ1 H1 e1 o1 => G μ1 H1 σ e1 (S.ext e1 o1)
    | ok b st1 =>
      rw [hc] at G
      intro μ1 H1 e1 o1
      have G := GoodS.ext G e1
      cases b with
      | false => exact G μ1 H1 σ Ext.refl (S.ext e1 o1)
      | true =>
        refine ⟨fun σ' H' => ∃ hd μ ρ st, Sim X.K X.mg hd μ ρ st σ' H' ∧ GoodS X.K X.mg hd W μ H' (whileN mc mb m ρ st) D, fun σ' H' h => ⟨m, Nat.lt_succ_self m, h⟩, TDS_def.mpr ⟨hd, μ1, ρ, st1, S.ext e1 o1, ?_⟩⟩
        simp only [if_true] at G
        cases hb : mb ρ st1 with
        | next ρ2 st2 => rw [hb] at G; exact fun μ3 H3 σ3 e3 S3 => ⟨hd, μ3, ρ2, st2, S3, GoodS.ext G e3⟩
        | cnt ρ2 st2 => rw [hb] at G; exact fun μ3 H3 σ3 e3 S3 => ⟨hd, μ3, ρ2, st2, S3, GoodS.ext G e3⟩
        | brk ρ2 st2 => rw [hb] at G; exact G
        | ret v st2 => rw [hb] at G; exact G
        | exc c ρ2 st2 => rw [hb] at G; exact G
        | stuck => rw [hb] at G; exact G
theorem ds_while (hp : PassesOwn (model X.prog X.w) X.A X.env X.xe) (hc : PT X c (TDT X.K X.mg W mc)) (hb : PSs X body (TDS X.K X.mg W mb)) : PS X (.While c body [] pos) (TDS X.K X.mg W (mWhile mc mb)) :=
  PS.imp (ps_while hp hc hb) fun _ _ _ h => tWhile_of h
end
end DL

namespace DL
open PySem PySem.Spec PyProof.Rows L2

/-! ### a hidden list -/
section
variable {K : PySem.W.Frag} {mg : Str → Option Value} {hd : List Addr} {μ μ1 : List Addr} {H H1 : Hp} {st : Sto} {D : Addr}
mutual
theorem Rep.hide (hD : H D = none) {o : HO} : ∀ (v : Val) (x : V), Rep K mg hd μ H v x → Rep K mg (D :: hd) μ (upd H D o) v x
  | .non, _, h => by cases h; exact .non
  | .bl b, _, h => by cases h; exact .bl b
  | .int i, _, h => by cases h; exact .int i
  | .str i, _, h => by cases h; exact .str i
  | .tup vs, _, h => by
    cases h with
    | tup h1 h2 => exact .tup ((Ext.obj (μ := μ) hD).sqT h1) (RepL.hide hD vs _ h2)
  | .tpl vs, _, h => by
    cases h with
    | tpl h1 h2 => exact .tpl ((Ext.obj (μ := μ) hD).tplN h1) (RepL.hide hD vs _ h2)
  | .tpk vs, _, h => by
    cases h with
    | tpk h1 h2 h0 h3 =>
      have nb := ne_of_none h1 hD
      exact .tpk (by rw [upd_ne nb]; exact h1) h2 (by rw [List.mem_cons, not_or]; exact ⟨nb, h0⟩) (RepL.hide hD vs _ h3)
  | .lst vs, _, h => by
    cases h with
    | lst h1 h2 h0 h3 =>
      have nb := ne_of_none h1 hD
      exact .lst (by rw [upd_ne nb]; exact h1) h2 (by rw [List.mem_cons, not_or]; exact ⟨nb, h0⟩) (RepL.hide hD vs _ h3)
  | .rol vs, _, h => by
    cases h with
    | rol h1 h2 => exact .rol ((Ext.obj (μ := μ) hD).frzL h1) (RepL.hide hD vs _ h2)
  | .dic kvs, _, h => by
    cases h with
    | dic h1 h2 h0 =>
      obtain ⟨q, hq⟩ := Rd.some h1
      exact .dic ((Ext.obj (μ := μ) hD).rd h1 h2) h2 (by rw [List.mem_cons, not_or]; exact ⟨ne_of_none hq hD, h0⟩)
  | .dit kvs, _, h => by
    cases h with
    | dit h1 h2 h0 =>
      obtain ⟨q, hq⟩ := Rd.some h1
      exact .dit ((Ext.obj (μ := μ) hD).rd h1 h2) h2 (by rw [List.mem_cons, not_or]; exact ⟨ne_of_none hq hD, h0⟩)
  | .ref l, _, h => by
    cases h with
    | ref h1 => exact .ref h1
  | .fn x, _, h => by
    cases h with
    | fn h1 => exact .fn h1
theorem RepL.hide (hD : H D = none) {o : HO} : ∀ (vs : List Val) (xs : List V), RepL K mg hd μ H vs xs → RepL K mg (D :: hd) μ (upd H D o) vs xs
  | [], _, h => by cases h; exact .nil
  | v :: vs, _, h => by
    cases h with
    | cons h1 h2 => exact .cons (Rep.hide hD v _ h1) (RepL.hide hD vs _ h2)
end
theorem RepF.hide (hD : H D = none) {o : HO} : ∀ {vs : List (Str × Val)} {xs : List (Str × V)}, RepF K mg hd μ H vs xs → RepF K mg (D :: hd) μ (upd H D o) vs xs
  | _, _, .nil => .nil
  | _, _, .cons h1 h2 => .cons (Rep.hide hD _ _ h1) (RepF.hide hD h2)
theorem CellOk.hide (hD : H D = none) {o : HO} {a : Addr} (ne : a ≠ D) : ∀ {c : Cell}, CellOk K mg hd μ H a c → CellOk K mg (D :: hd) μ (upd H D o) a c
  | .lst vs, ⟨xs, h, r⟩ => ⟨xs, by rw [upd_ne ne]; exact h, RepL.hide hD _ _ r⟩
  | .dic kvs, h => by show upd H D o a = _; rw [upd_ne ne]; exact h
  | .dit kvs, h => by show upd H D o a = _; rw [upd_ne ne]; exact h
  | .rod kvs, h => by
    rcases h with h | ⟨q, h⟩
    · exact .inl (by rw [upd_ne ne]; exact h)
    · exact .inr ⟨q, by rw [upd_ne ne]; exact h⟩
  | .ins c fs, ⟨C, dx, fs', m, h, r⟩ => ⟨C, dx, fs', m, by rw [upd_ne ne]; exact h, RepF.hide hD r⟩
theorem StoOk.hide (ok : StoOk K mg hd μ st H) (hD : H D = none) {o : HO} : StoOk K mg (D :: hd) μ st (upd H D o) :=
  ⟨ok.len, ok.nd, fun l a c h1 h2 => by
    have c1 := ok.cell l a c h1 h2
    obtain ⟨q, hq⟩ := c1.there
    exact c1.hide hD (ne_of_none hq hD), fun b hb => by
    rw [List.mem_cons] at hb
    rcases hb with rfl | hb
    · exact ⟨nin_of ok hD, o, upd_same⟩
    · obtain ⟨h1, q, h2⟩ := ok.hid b hb
      exact ⟨h1, q, by rw [upd_ne (ne_of_none h2 hD)]; exact h2⟩⟩
-- the hidden list is rewritten
mutual
theorem Rep.hset {xs0 : List V} {o : HO} (hD : H D = some (.lst xs0)) (hh : D ∈ hd) : ∀ (v : Val) (x : V), Rep K mg hd μ H v x → Rep K mg hd μ (upd H D o) v x
  | .non, _, h => by cases h; exact .non
  | .bl b, _, h => by cases h; exact .bl b
  | .int i, _, h => by cases h; exact .int i
  | .str i, _, h => by cases h; exact .str i
  | .tup vs, _, h => by
    cases h with
    | tup h1 h2 =>
      refine .tup ?_ (RepL.hset hD hh vs _ h2)
      rcases h1 with (h1 | ⟨q, h1⟩) | h1
      · exact .inl (.inl (by rw [upd_ne (ne_of h1 hD (by intro z; cases z))]; exact h1))
      · exact .inl (.inr ⟨q, by rw [upd_ne (ne_of h1 hD (by intro z; cases z))]; exact h1⟩)
      · exact .inr h1
  | .tpl vs, _, h => by
    cases h with
    | tpl h1 h2 =>
      obtain ⟨q, h1, h3, h4⟩ := h1
      exact .tpl ⟨q, by rw [upd_ne (ne_of h1 hD (by intro z; cases z))]; exact h1, h3, h4⟩ (RepL.hset hD hh vs _ h2)
  | .tpk vs, _, h => by
    cases h with
    | tpk h1 h2 h0 h3 => exact .tpk (by rw [upd_ne (by rintro rfl; exact h0 hh)]; exact h1) h2 h0 (RepL.hset hD hh vs _ h3)
  | .lst vs, _, h => by
    cases h with
    | lst h1 h2 h0 h3 => exact .lst (by rw [upd_ne (by rintro rfl; exact h0 hh)]; exact h1) h2 h0 (RepL.hset hD hh vs _ h3)
  | .rol vs, _, h => by
    cases h with
    | rol h1 h2 =>
      refine .rol ?_ (RepL.hset hD hh vs _ h2)
      rcases h1 with ⟨q, h1⟩ | h1
      · exact .inl ⟨q, by rw [upd_ne (ne_of h1 hD (by intro z; cases z))]; exact h1⟩
      · exact .inr h1
  | .dic kvs, _, h => by
    cases h with
    | dic h1 h2 h0 =>
      refine .dic ?_ h2 h0
      rcases h1 with h1 | ⟨q, h1⟩
      · exact .inl (by rw [upd_ne (by rintro rfl; exact h0 hh)]; exact h1)
      · exact .inr ⟨q, by rw [upd_ne (by rintro rfl; exact h0 hh)]; exact h1⟩
  | .dit kvs, _, h => by
    cases h with
    | dit h1 h2 h0 =>
      refine .dit ?_ h2 h0
      rcases h1 with h1 | ⟨q, h1⟩
      · exact .inl (by rw [upd_ne (by rintro rfl; exact h0 hh)]; exact h1)
      · exact .inr ⟨q, by rw [upd_ne (by rintro rfl; exact h0 hh)]; exact h1⟩
  | .ref l, _, h => by
    cases h with
    | ref h1 => exact .ref h1
  | .fn x, _, h => by
    cases h with
    | fn h1 => exact .fn h1
theorem RepL.hset {xs0 : List V} {o : HO} (hD : H D = some (.lst xs0)) (hh : D ∈ hd) : ∀ (vs : List Val) (xs : List V), RepL K mg hd μ H vs xs → RepL K mg hd μ (upd H D o) vs xs
  | [], _, h => by cases h; exact .nil
  | v :: vs, _, h => by
    cases h with
    | cons h1 h2 => exact .cons (Rep.hset hD hh v _ h1) (RepL.hset hD hh vs _ h2)
end
theorem RepF.hset {xs0 : List V} {o : HO} (hD : H D = some (.lst xs0)) (hh : D ∈ hd) : ∀ {vs : List (Str × Val)} {xs : List (Str × V)}, RepF K mg hd μ H vs xs → RepF K mg hd μ (upd H D o) vs xs
  | _, _, .nil => .nil
  | _, _, .cons h1 h2 => .cons (Rep.hset hD hh _ _ h1) (RepF.hset hD hh h2)
theorem CellOk.hset {xs0 : List V} {o : HO} (hD : H D = some (.lst xs0)) (hh : D ∈ hd) {a : Addr} (ne : a ≠ D) : ∀ {c : Cell}, CellOk K mg hd μ H a c → CellOk K mg hd μ (upd H D o) a c
  | .lst vs, ⟨xs, h, r⟩ => ⟨xs, by rw [upd_ne ne]; exact h, RepL.hset hD hh _ _ r⟩
  | .dic kvs, h => by show upd H D o a = _; rw [upd_ne ne]; exact h
  | .dit kvs, h => by show upd H D o a = _; rw [upd_ne ne]; exact h
  | .rod kvs, h => by
    rcases h with h | ⟨q, h⟩
    · exact .inl (by rw [upd_ne ne]; exact h)
    · exact .inr ⟨q, by rw [upd_ne ne]; exact h⟩
  | .ins c fs, ⟨C, dx, fs', m, h, r⟩ => ⟨C, dx, fs', m, by rw [upd_ne ne]; exact h, RepF.hset hD hh r⟩
theorem StoOk.hset {xs0 : List V} {o : HO} (ok : StoOk K mg hd μ st H) (hD : H D = some (.lst xs0)) (hh : D ∈ hd) : StoOk K mg hd μ st (upd H D o) :=
  ⟨ok.len, ok.nd, fun l a c h1 h2 => (ok.cell l a c h1 h2).hset hD hh (by rintro rfl; exact (ok.hid _ hh).1 (List.mem_of_getElem? h1)), fun b hb => by
    obtain ⟨h1, q, h2⟩ := ok.hid b hb
    by_cases e : b = D
    · subst e
      exact ⟨h1, o, upd_same⟩
    · exact ⟨h1, q, by rw [upd_ne e]; exact h2⟩⟩
-- it is shown: a new cell | forgotten
mutual
theorem Rep.move {ν : List Addr} {hd' : List Addr} (hi : ∀ (l : Nat) (a : Addr), μ[l]? = some a → ν[l]? = some a) (ho : ∀ a, a ∉ μ → a ∉ hd → a ∉ ν ∧ a ∉ hd') : ∀ (v : Val) (x : V), Rep K mg hd μ H v x → Rep K mg hd' ν H v x
  | .non, _, h => by cases h; exact .non
  | .bl b, _, h => by cases h; exact .bl b
  | .int i, _, h => by cases h; exact .int i
  | .str i, _, h => by cases h; exact .str i
  | .tup vs, _, h => by
    cases h with
    | tup h1 h2 => exact .tup h1 (RepL.move hi ho vs _ h2)
  | .tpl vs, _, h => by
    cases h with
    | tpl h1 h2 => exact .tpl h1 (RepL.move hi ho vs _ h2)
  | .tpk vs, _, h => by
    cases h with
    | tpk h1 h2 h0 h3 => exact .tpk h1 (ho _ h2 h0).1 (ho _ h2 h0).2 (RepL.move hi ho vs _ h3)
  | .lst vs, _, h => by
    cases h with
    | lst h1 h2 h0 h3 => exact .lst h1 (ho _ h2 h0).1 (ho _ h2 h0).2 (RepL.move hi ho vs _ h3)
  | .rol vs, _, h => by
    cases h with
    | rol h1 h2 => exact .rol h1 (RepL.move hi ho vs _ h2)
  | .dic kvs, _, h => by
    cases h with
    | dic h1 h2 h0 => exact .dic h1 (ho _ h2 h0).1 (ho _ h2 h0).2
  | .dit kvs, _, h => by
    cases h with
    | dit h1 h2 h0 => exact .dit h1 (ho _ h2 h0).1 (ho _ h2 h0).2
  | .ref l, _, h => by
    cases h with
    | ref h1 => exact .ref (hi _ _ h1)
  | .fn x, _, h => by
    cases h with
    | fn h1 => exact .fn h1
theorem RepL.move {ν : List Addr} {hd' : List Addr} (hi : ∀ (l : Nat) (a : Addr), μ[l]? = some a → ν[l]? = some a) (ho : ∀ a, a ∉ μ → a ∉ hd → a ∉ ν ∧ a ∉ hd') : ∀ (vs : List Val) (xs : List V), RepL K mg hd μ H vs xs → RepL K mg hd' ν H vs xs
  | [], _, h => by cases h; exact .nil
  | v :: vs, _, h => by
    cases h with
    | cons h1 h2 => exact .cons (Rep.move hi ho v _ h1) (RepL.move hi ho vs _ h2)
end
theorem RepF.move {ν : List Addr} {hd' : List Addr} (hi : ∀ (l : Nat) (a : Addr), μ[l]? = some a → ν[l]? = some a) (ho : ∀ a, a ∉ μ → a ∉ hd → a ∉ ν ∧ a ∉ hd') : ∀ {vs : List (Str × Val)} {xs : List (Str × V)}, RepF K mg hd μ H vs xs → RepF K mg hd' ν H vs xs
  | _, _, .nil => .nil
  | _, _, .cons h1 h2 => .cons (Rep.move hi ho _ _ h1) (RepF.move hi ho h2)
theorem CellOk.move {ν : List Addr} {hd' : List Addr} (hi : ∀ (l : Nat) (a : Addr), μ[l]? = some a → ν[l]? = some a) (ho : ∀ a, a ∉ μ → a ∉ hd → a ∉ ν ∧ a ∉ hd') {a : Addr} : ∀ {c : Cell}, CellOk K mg hd μ H a c → CellOk K mg hd' ν H a c
  | .lst vs, ⟨xs, h, r⟩ => ⟨xs, h, RepL.move hi ho _ _ r⟩
  | .dic kvs, h => h
  | .dit kvs, h => h
  | .rod kvs, h => h
  | .ins c fs, ⟨C, dx, fs', m, h, r⟩ => ⟨C, dx, fs', m, h, RepF.move hi ho r⟩
theorem StoOk.unhide (ok : StoOk K mg (D :: hd) μ st H) : StoOk K mg hd μ st H :=
  ⟨ok.len, ok.nd, fun l a c h1 h2 => (ok.cell l a c h1 h2).move (fun _ _ h => h) fun a h1 h2 => ⟨h1, fun h => h2 (List.mem_cons_of_mem _ h)⟩, fun b hb => ok.hid b (List.mem_cons_of_mem _ hb)⟩
theorem StoOk.show {vs : List Val} {xs : List V} (ok : StoOk K mg (D :: hd) μ st H) (nd : D ∉ hd) (hD : H D = some (.lst xs)) (r : RepL K mg (D :: hd) μ H vs xs) : StoOk K mg hd (μ ++ [D]) (st ++ [.lst vs]) H := by
  have hi : ∀ (l : Nat) (a : Addr), μ[l]? = some a → (μ ++ [D])[l]? = some a := fun l a h => by
    rw [List.getElem?_append_left (List.getElem?_eq_some_iff.mp h).1]
    exact h
  have ho : ∀ a, a ∉ μ → a ∉ D :: hd → a ∉ μ ++ [D] ∧ a ∉ hd := fun a h1 h2 => by
    rw [List.mem_cons, not_or] at h2
    rw [List.mem_append, List.mem_singleton, not_or]
    exact ⟨⟨h1, h2.1⟩, h2.2⟩
  have hn : D ∉ μ := (ok.hid D (List.mem_cons_self)).1
  refine ⟨by rw [List.length_append, List.length_append, ok.len]; rfl, ?_, fun l a d h1 h2 => ?_, fun b hb => ?_⟩
  · rw [List.nodup_append]
    exact ⟨ok.nd, by simp, fun a ha b hb => by
      rw [List.mem_singleton] at hb
      rintro rfl
      exact hn (hb ▸ ha)⟩
  · by_cases hl : l < μ.length
    · rw [List.getElem?_append_left hl] at h1
      rw [List.getElem?_append_left (by rw [← ok.len]; exact hl)] at h2
      exact (ok.cell l a d h1 h2).move hi ho
    · have e1 : l = μ.length := by
        have := (List.getElem?_eq_some_iff.mp h1).1
        rw [List.length_append, List.length_singleton] at this
        omega
      subst e1
      rw [List.getElem?_append_right (Nat.le_refl _), Nat.sub_self] at h1
      rw [ok.len, List.getElem?_append_right (Nat.le_refl _), Nat.sub_self] at h2
      simp at h1 h2
      subst h1
      subst h2
      exact ⟨xs, hD, RepL.move hi ho _ _ r⟩
  · obtain ⟨h1, o, h2⟩ := ok.hid b (List.mem_cons_of_mem _ hb)
    refine ⟨fun h => ?_, o, h2⟩
    rw [List.mem_append, List.mem_singleton] at h
    rcases h with h | h
    · exact h1 h
    · subst h; exact nd hb
/-- from a heap that did not know D -/
theorem Ext.hset {o : HO} (e : Ext μ H μ1 H1) (hD : H D = none) : Ext μ H μ1 (upd H1 D o) :=
  ⟨e.pre, fun a u h n => by rw [upd_ne (ne_of_none h hD)]; exact e.out a u h n, fun a xs h => by
    obtain ⟨q, hq⟩ := Rd.some h
    have nb := ne_of_none hq hD
    rcases e.tup a xs h with h | ⟨q, h⟩
    · exact .inl (by rw [upd_ne nb]; exact h)
    · exact .inr ⟨q, by rw [upd_ne nb]; exact h⟩, fun a q u h => by rw [upd_ne (ne_of_none h hD)]; exact e.frz a q u h, e.new⟩
end

/-! ### comprehensions -/
open Classical in
noncomputable def compLoop (t : Tg) (cond : MT) (elt : ME) (g : Option (Nat × Cell)) (ρ : Rho) : List Val → List Val → Sto → Res (List Val)
  | [], acc, st => if Guard st g then .ok acc st else .stuck
  | v :: vs, acc, st => if Guard st g then (match t.asg v ρ with
    | none => .stuck
    | some ρ' => match cond ρ' st with
      | .ok b st1 => if b = true then (match elt ρ' st1 with
        | .ok y st2 => compLoop t cond elt g ρ vs (acc ++ [y]) st2
        | _ => .stuck) else compLoop t cond elt g ρ vs acc st1
      | _ => .stuck) else .stuck
def wipeR (ρ : Rho) : List Nat → Rho
  | [] => ρ
  | v :: vs => (wipeR ρ vs).set v none
noncomputable def mComp (mi : MI) (t : Tg) (cond : MT) (elt : ME) (ws : List Nat) : MC := fun ρ st => (mi ρ st).bind fun w st1 =>
  (compLoop t cond elt w.guard (wipeR ρ ws) w.items [] st1).bind fun vs st2 => .ok (.lst vs) st2
def mTrue : MT := fun _ st => .ok true st
abbrev W0 : WX := fun _ _ _ _ => False

theorem Sim.wipe {K : PySem.W.Frag} {mg : Str → Option Value} {hd μ : List Addr} {ρ : Rho} {st : Sto} {σ : St} {H : Hp} (S : Sim K mg hd μ ρ st σ H) : ∀ ws : List Nat, Sim K mg hd μ (wipeR ρ ws) st (wipe σ ws) H
  | [] => S
  | v :: vs => by
    have ih := Sim.wipe S vs
    refine ⟨ih.sto, by show ((wipeR ρ vs).set v none).length = ((L2.wipe σ vs).set v none).length; rw [List.length_set, List.length_set]; exact ih.len, fun i w h => ?_⟩
    have h : ((wipeR ρ vs).set v none)[i]? = some (some w) := h
    by_cases e : v = i
    · subst e
      by_cases hv : v < (wipeR ρ vs).length
      · rw [List.getElem?_set_self hv] at h; cases h
      · rw [List.getElem?_eq_none (by rw [List.length_set]; omega)] at h; cases h
    · rw [List.getElem?_set_ne e] at h
      obtain ⟨x, h1, h2⟩ := ih.slot i w h
      exact ⟨x, by show ((L2.wipe σ vs).set v none)[i]? = _; rw [List.getElem?_set_ne e]; exact h1, h2⟩
theorem wipe_set_in : ∀ {ws : List Nat} {σ : St} {i : Nat} {o : Option V}, i ∈ ws → wipe (σ.set i o) ws = wipe σ ws
  | v :: vs, σ, i, o, h => by
    show (wipe (σ.set i o) vs).set v none = (wipe σ vs).set v none
    by_cases hi : i ∈ vs
    · rw [wipe_set_in hi]
    · have e : i = v := by
        rw [List.mem_cons] at h
        rcases h with h | h
        · exact h
        · exact absurd h hi
      subst e
      have : ∀ (us : List Nat) (τ : St), wipe (τ.set i o) us = (wipe τ us).set i o ∨ i ∈ us := by
        intro us
        induction us with
        | nil => exact fun τ => .inl rfl
        | cons u us ih =>
          intro τ
          rcases ih τ with q | q
          · by_cases z : u = i
            · exact .inr (by rw [z]; exact List.mem_cons_self)
            · left
              show (wipe (τ.set i o) us).set u none = ((wipe τ us).set u none).set i o
              rw [q, List.set_comm _ _ (fun e => z e.symm)]
          · exact .inr (List.mem_cons_of_mem _ q)
      rcases this vs σ with q | q
      · rw [q, List.set_set]
      · exact absurd q hi
theorem wipe_wipe : ∀ {ws : List Nat} {σ : St}, wipe (wipe σ ws) ws = wipe σ ws
  | [], _ => rfl
  | v :: vs, σ => by
    show (wipe ((wipe σ vs).set v none) vs).set v none = (wipe σ vs).set v none
    by_cases hv : v ∈ vs
    · rw [wipe_set_in hv, wipe_wipe]
    · have : ∀ (us : List Nat) (τ : St), v ∉ us → wipe (τ.set v none) us = (wipe τ us).set v none := by
        intro us
        induction us with
        | nil => exact fun τ _ => rfl
        | cons u us ih =>
          intro τ hn
          rw [List.mem_cons, not_or] at hn
          show (wipe (τ.set v none) us).set u none = ((wipe τ us).set u none).set v none
          rw [ih τ hn.2, List.set_comm _ _ hn.1]
      rw [this vs _ hv, List.set_set, wipe_wipe]
theorem wipe_sets {ws : List Nat} : ∀ {is : List Nat} {σ τ : St}, SetsOf is σ τ → (∀ i ∈ is, i ∈ ws) → wipe τ ws = wipe σ ws
  | _, _, _, .nil, _ => rfl
  | _, _, _, .cons h, k => by
    rw [wipe_sets h fun i hi => k i (List.mem_cons_of_mem _ hi), wipe_set_in (k _ List.mem_cons_self)]

section
variable {X : Cx} {W : WX} {elt tg iter : Expr} {ifs : List Expr} {scope : Scope} {own : List (Str × Nat)} {pos : Pos} {mi : MI} {t : Tg} {mc : MT} {me : ME}
theorem PTs.imp {X : Cx} {e : List Expr} {t t' : TT} (h : PTs X e t) (i : ∀ σ H Q, t' σ H Q → t σ H Q) : PTs X e t' := ⟨fun pins s σ H Q I q => h.run pins s σ H Q I (i _ _ _ q)⟩
theorem dts_nil : PTs X [] (TDT X.K X.mg W mTrue) := PTs.imp pts_nil fun σ H Q ⟨hd, μ, ρ, st, S, G⟩ => G.here S.sto
theorem dts_one {c : Expr} (h : PT X c (TDT X.K X.mg W mc)) : PTs X [c] (TDT X.K X.mg W mc) := pts_one h
theorem tLc_of {ws : List Nat} (hp : ∀ i ∈ t.places, i ∈ ws) {σ : St} {H : Hp} {Q : VK} (h : TDF X.K X.mg W (mComp mi t mc me ws) σ H Q) :
    tLc (TDI X.K X.mg W mi) (TDG X.K X.mg t) (TDT X.K X.mg W0 mc) (TD X.K X.mg W0 me) ws σ H Q := by
  obtain ⟨hd, μ, ρ, st, S, G⟩ := h
  refine ⟨hd, μ, ρ, st, S, Good.imp (Good.bind G) (fun μ1 st1 H1 w e1 o1 G1 J k D hD => ?_) fun _ _ h => h⟩
  have S1 := S.ext e1 o1
  have hD0 : H D = none := fresh_of S.sto e1 o1 hD
  have nh : D ∉ hd := nhid_of o1 hD
  have hhd : Hid hd (D :: hd) H1 := fun b hb => by
    rw [List.mem_cons] at hb
    rcases hb with rfl | hb
    · exact .inr hD
    · exact .inl hb
  -- what is wanted of the end
  have fin : ∀ (r : Res (List Val)), Good X.K X.mg hd μ1 H1 (r.bind fun vs st2 => Res.ok (Cell.lst vs) st2) (fun μ' st' H' c => ∀ a, H a = none → a ∉ μ' → a ∉ hd → CellOk X.K X.mg hd μ' H' a c → StoOk X.K X.mg hd (μ' ++ [a]) (st' ++ [c]) H' → Q (.ref a) H') (gW X.mg W σ) →
      match r with
      | .ok vs st' => ∀ μ' H' xs, Ext μ1 H1 μ' H' → StoOk X.K X.mg (D :: hd) μ' st' H' → H' D = some (.lst xs) → RepL X.K X.mg (D :: hd) μ' H' vs xs → Q (.ref D) H'
      | .exc _ _ => True
      | .stuck => False := by
    intro r G
    cases r with
    | ok vs st' =>
      intro μ' H' xs e' o' hx rx
      exact G μ' H' e' o'.unhide D hD0 (o'.hid D List.mem_cons_self).1 nh ⟨xs, hx, RepL.move (fun _ _ h => h) (fun a h1 h2 => ⟨h1, fun h => h2 (List.mem_cons_of_mem _ h)⟩) _ _ rx⟩ (o'.show nh hx rx)
    | exc => trivial
    | stuck => exact G
  have noexc : ∀ (vs acc : List Val) (st : Sto) c s', compLoop t mc me w.guard (wipeR ρ ws) vs acc st ≠ .exc c s' := by
    intro vs
    induction vs with
    | nil =>
      intro acc st c s' h
      unfold compLoop at h
      split at h <;> cases h
    | cons v vs ih =>
      intro acc st c s' h
      unfold compLoop at h
      split at h
      · cases ha : t.asg v (wipeR ρ ws) with
        | none => rw [ha] at h; cases h
        | some ρ' =>
          rw [ha] at h
          dsimp only at h
          cases hc : mc ρ' st with
          | ok b st1 =>
            rw [hc] at h
            cases b with
            | true =>
              simp only [if_true] at h
              cases he : me ρ' st1 with
              | ok y st2 => rw [he] at h; exact ih _ _ _ _ h
              | exc => rw [he] at h; cases h
              | stuck => rw [he] at h; cases h
            | false => exact ih _ _ _ _ h
          | exc => rw [hc] at h; cases h
          | stuck => rw [hc] at h; cases h
      · cases h
  have G2 := fin _ G1
  refine ⟨fun i m H' => i + m = w.items.length ∧ ∃ μ' st' acc xs, Ext μ1 H1 μ' H' ∧ StoOk X.K X.mg (D :: hd) μ' st' H' ∧ H' D = some (.lst xs) ∧ RepL X.K X.mg (D :: hd) μ' H' acc xs ∧ acc.length ≤ i ∧
    (match compLoop t mc me w.guard (wipeR ρ ws) (w.items.drop i) acc st' with
      | .ok vs st' => ∀ μ' H' xs, Ext μ1 H1 μ' H' → StoOk X.K X.mg (D :: hd) μ' st' H' → H' D = some (.lst xs) → RepL X.K X.mg (D :: hd) μ' H' vs xs → Q (.ref D) H'
      | .exc _ _ => True
      | .stuck => False), ⟨w.items.length, by omega, μ1, st1, [], [], Ext.refl.hset hD, o1.hide hD, upd_same, .nil, Nat.le_refl _, G2⟩, ?_⟩
  rintro i m H' ⟨hm, μ', st', acc, xs, e', o', hx, rx, hl, G⟩
  -- the start's slots, as they are now
  have Sn : Sim X.K X.mg (D :: hd) μ' (wipeR ρ ws) st' (wipe σ ws) H' := by
    have S2 := S1.wipe ws
    refine ⟨o', S2.len, fun j v hj => ?_⟩
    obtain ⟨x, h1, h2⟩ := S2.slot j v hj
    refine ⟨x, h1, ?_⟩
    -- from H1 to H' with D hidden
    have h3 := Rep.hide (o := .lst []) hD v x h2
    have e2 : Ext μ1 (upd H1 D (.lst xs)) μ' H' := by
      refine ⟨e'.pre, fun a u ha n => ?_, fun a ys ha => ?_, fun a q u ha => ?_, fun a ha n => ?_⟩
      · by_cases z : a = D
        · subst z
          rw [upd_same] at ha
          cases ha
          exact hx
        · rw [upd_ne z] at ha
          exact e'.out a u ha n
      · have z : a ≠ D := by
          rintro rfl
          rcases ha with ha | ⟨q, ha⟩
          · rw [upd_same] at ha; cases ha
          · rw [upd_same] at ha; cases ha
        refine e'.tup a ys ?_
        rcases ha with ha | ⟨q, ha⟩
        · exact .inl (by rw [upd_ne z] at ha; exact ha)
        · exact .inr ⟨q, by rw [upd_ne z] at ha; exact ha⟩
      · have z : a ≠ D := by
          rintro rfl
          rw [upd_same] at ha; cases ha
        rw [upd_ne z] at ha
        exact e'.frz a q u ha
      · have z : a ≠ D := by
          rintro rfl
          exact (o'.hid a List.mem_cons_self).1 ha
        rw [upd_ne z]
        exact e'.new a ha n
    exact Rep.ext e2 v x (Rep.hide (o := .lst xs) hD v x h2)
  have stx : ∀ g, Guard st' g → Guard st' g := fun _ h => h
  cases hdp : w.items.drop i with
  | nil =>
    rw [hdp] at G
    have hi : w.items.length ≤ i := List.drop_eq_nil_iff.mp hdp
    unfold compLoop at G
    by_cases hg : Guard st' w.guard
    · rw [if_pos hg] at G
      exact .inl ⟨k.stop (D :: hd) hhd i μ' st' H' e' o' hg hi, G μ' H' xs e' o' hx rx⟩
    · rw [if_neg hg] at G
      exact G.elim
  | cons v vs =>
    rw [hdp] at G
    have hi : i < w.items.length := by
      by_cases q : i < w.items.length
      · exact q
      · rw [List.drop_eq_nil_of_le (by omega)] at hdp
        cases hdp
    have hv : w.items[i]? = some v := by
      have := congrArg List.head? hdp
      rw [List.head?_drop] at this
      exact this
    have hvs : w.items.drop (i + 1) = vs := by
      have := congrArg List.tail hdp
      rw [List.tail_drop] at this
      exact this
    unfold compLoop at G
    by_cases hg : Guard st' w.guard
    · rw [if_pos hg] at G
      refine .inr ⟨k.go (D :: hd) hhd i μ' st' H' e' o' hg hi, fun H' => (i + 1) + (m - 1) = w.items.length ∧ ∃ μ' st' acc xs, Ext μ1 H1 μ' H' ∧ StoOk X.K X.mg (D :: hd) μ' st' H' ∧ H' D = some (.lst xs) ∧ RepL X.K X.mg (D :: hd) μ' H' acc xs ∧ acc.length ≤ i + 1 ∧
        (match compLoop t mc me w.guard (wipeR ρ ws) (w.items.drop (i + 1)) acc st' with
          | .ok vs st' => ∀ μ' H' xs, Ext μ1 H1 μ' H' → StoOk X.K X.mg (D :: hd) μ' st' H' → H' D = some (.lst xs) → RepL X.K X.mg (D :: hd) μ' H' vs xs → Q (.ref D) H'
          | .exc _ _ => True
          | .stuck => False), fun H' h => ⟨m - 1, by omega, h⟩, fun x H2 hy => ?_⟩
      obtain ⟨v', hv', e2, o2u, rv⟩ := k.yld (D :: hd) hhd i μ' st' H' x H2 e' o' hg hy hi
      rw [hv] at hv'
      cases hv'
      cases ha : t.asg v (wipeR ρ ws) with
      | none => rw [ha] at G; exact G.elim
      | some ρ' =>
        rw [ha] at G
        dsimp only at G
        refine ⟨D :: hd, μ', wipeR ρ ws, st', v, ρ', Sn.ext e2 o2u, rv, ha, fun σ2 hs2 S2 => ⟨by rw [wipe_sets hs2 hp, wipe_wipe], ?_⟩⟩
        refine ⟨D :: hd, μ', ρ', st', S2, ?_⟩
        cases hc : mc ρ' st' with
        | exc => rw [hc] at G; exact G.elim
        | stuck => rw [hc] at G; exact G.elim
        | ok b st3 =>
          rw [hc] at G
          intro μ3 H3 e3 o3
          have e13 : Ext μ1 H1 μ3 H3 := (e'.trans e2).trans e3
          have hx3 : H3 D = some (.lst xs) := (e2.trans e3).out D _ hx (o'.hid D List.mem_cons_self).1
          have rx3 : RepL X.K X.mg (D :: hd) μ3 H3 acc xs := RepL.ext (e2.trans e3) _ _ rx
          cases b with
          | false =>
            exact ⟨by omega, μ3, st3, acc, xs, e13, o3, hx3, rx3, by omega, by rw [hvs]; exact G⟩
          | true =>
            refine ⟨D :: hd, μ3, ρ', st3, S2.ext e3 o3, ?_⟩
            simp only [if_true] at G
            cases he : me ρ' st3 with
            | exc => rw [he] at G; exact G.elim
            | stuck => rw [he] at G; exact G.elim
            | ok y st4 =>
              rw [he] at G
              intro μ4 H4 e4 o4 x4 r4
              have hx4 : H4 D = some (.lst xs) := e4.out D _ hx3 (o3.hid D List.mem_cons_self).1
              have rx4 : RepL X.K X.mg (D :: hd) μ4 H4 acc xs := RepL.ext e4 _ _ rx3
              have hlen : acc.length < w.items.length := by omega
              refine ⟨xs, hx4, by rw [← rx4.len]; exact Nat.lt_of_lt_of_le hlen k.len, by omega, μ4, st4, acc ++ [y], xs ++ [x4], (e13.trans e4).hset hD, o4.hset hx4 List.mem_cons_self, upd_same, RepL.hset hx4 List.mem_cons_self _ _ (rx4.append (.cons r4 .nil)), by rw [List.length_append, List.length_singleton]; omega, by rw [hvs]; exact G⟩
    · rw [if_neg hg] at G
      exact G.elim
end
end DL

namespace DL
open PySem PySem.Spec PyProof.Rows L2

section
variable {X : Cx} {W : WX} {elt tg iter : Expr} {ifs : List Expr} {scope : Scope} {own : List (Str × Nat)} {pos : Pos} {mi : MI} {t : Tg} {mc : MT} {me : ME}
/-- [elt for tg in iter if ..] -/
theorem df_comp (hc : X.calm = true) (hN : X.N.Nodup) (hi : PI X tg iter (TDI X.K X.mg W mi)) (ok : BlkOk X.N X.env.scope scope own) (hp : ∀ i ∈ t.places, i ∈ own.map (·.2))
    (hg : ∀ (s : Shared) (H : Hp) (C : Addr) (cl : List (Str × Addr)) (fp : List Addr), PG (X.blk s H scope (compEnvC scope cl C X.env) fp) tg (TDG X.K X.mg t))
    (ht : ∀ (s : Shared) (H : Hp) (C : Addr) (cl : List (Str × Addr)) (fp : List Addr), PTs (X.blk s H scope (compEnvC scope cl C X.env) fp) ifs (TDT X.K X.mg W0 mc))
    (he : ∀ (s : Shared) (H : Hp) (C : Addr) (cl : List (Str × Addr)) (fp : List Addr), PE (X.blk s H scope (compEnvC scope cl C X.env) fp) elt (TD X.K X.mg W0 me)) (hs : ∀ x, foldedSetIterable iter X.env x = pure x := by intro _; rfl) :
    PE X (.ListComp elt [⟨tg, iter, ifs, 0⟩] scope pos) (TDF X.K X.mg W (mComp mi t mc me (own.map (·.2)))) :=
  PE.imp (pe_lc hc hN hi ok hg ht he hs) fun _ _ _ h => tLc_of hp h
/-- name = [..] on one line: as a value | as a cell -/
def mSetC (i : Nat) (m : MC) : MS := mSet i (mVal m)
def mSetN (i : Nat) (m : MC) : MS := mSet i (mNew m)
theorem ds_setLc {i : Nat} {y : Str} {py : Pos} {spos : Pos} (hc : X.calm = true) (hN : X.N.Nodup) (hy : X.N[i]? = some y) (hyl : X.env.scope.names.lookup y = some .local)
    (hsw : swapsWith (.ListComp elt [⟨tg, iter, ifs, 0⟩] scope pos) (some (.Name y py)) spos.line X.env = pure true) (hi : PI X tg iter (TDI X.K X.mg W mi)) (ok : BlkOk X.N X.env.scope scope own) (hp : ∀ i ∈ t.places, i ∈ own.map (·.2))
    (hg : ∀ (s : Shared) (H : Hp) (C : Addr) (cl : List (Str × Addr)) (fp : List Addr), PG (X.blk s H scope (compEnvC scope cl C X.env) fp) tg (TDG X.K X.mg t))
    (ht : ∀ (s : Shared) (H : Hp) (C : Addr) (cl : List (Str × Addr)) (fp : List Addr), PTs (X.blk s H scope (compEnvC scope cl C X.env) fp) ifs (TDT X.K X.mg W0 mc))
    (he : ∀ (s : Shared) (H : Hp) (C : Addr) (cl : List (Str × Addr)) (fp : List Addr), PE (X.blk s H scope (compEnvC scope cl C X.env) fp) elt (TD X.K X.mg W0 me)) (hs : ∀ x, foldedSetIterable iter X.env x = pure x := by intro _; rfl) :
    PS X (.Assign [.Name y py] (.ListComp elt [⟨tg, iter, ifs, 0⟩] scope pos) spos) (TDS X.K X.mg W (mSet i (mVal (mComp mi t mc me (own.map (·.2)))))) :=
  PS.imp (ps_setLc hc hN hy hyl hsw hi ok hg ht he hs) fun D σ H h => by
    obtain ⟨hd, μ, ρ, st, S, G⟩ := TDS_def.mp h
    have G1 := withE_of S G
    -- the comprehension's reading, at these slots
    have T : TDF X.K X.mg W (mComp mi t mc me (own.map (·.2))) σ H (fun x H1 => gName i x σ H1 D.nx) := by
      refine ⟨hd, μ, ρ, st, S, Good.imp (Good.bind G1) (fun μ1 st1 H1 c e1 o1 G2 a ha hn hh hc' hs' => ?_) fun _ _ h => h⟩
      by_cases hz : isLD c = true
      · rw [if_pos hz] at G2
        exact (G2.here o1).2 μ1 H1 _ Ext.refl ((S.ext e1 o1).set (hc'.rep hn hh hz))
      · rw [if_neg hz] at G2
        exact G2.elim
    exact tLc_of hp T
end

/-! ### what a def promises -/
section
variable (K : PySem.W.Frag) (mg : Str → Option Value)
abbrev FV := List Val → Sto → Res Val
def spD (F : FV) : Sp := fun vs H Q E => ∃ hd μ st args, StoOk K mg hd μ st H ∧ RepL K mg hd μ H args vs ∧ Good K mg hd μ H (F args st) (fun μ' _ H' v => ∀ x, Rep K mg hd μ' H' v x → Q x H') (fun c H' => ∃ C, mg c = some (.ref C) ∧ E (.ref C) none H')
end
def Arity (n : Nat) (F : FV) : Prop := ∀ args st, args.length ≠ n → F args st = .stuck
def runB (n N : Nat) (body : MS) : FV := fun args st => if args.length = n then (match body (args.map some ++ List.replicate (N - n) none) st with
  | .ret v st' => .ok v st'
  | .next _ st' => .ok .non st'
  | .exc c _ st' => .exc c st'
  | _ => .stuck) else .stuck
theorem runB_arity {n N : Nat} {body : MS} : Arity n (runB n N body) := fun args st h => if_neg h
theorem spD_len {K : PySem.W.Frag} {mg : Str → Option Value} {F : FV} {n : Nat} (a : Arity n F) (vs : List V) (H : Hp) (Q : VK) (E : XK) (h : spD K mg F vs H Q E) : vs.length = n := by
  obtain ⟨hd, μ, st, args, o, r, G⟩ := h
  by_cases e : args.length = n
  · rw [← r.len]; exact e
  · rw [a args st e] at G
    exact G.elim
/-- a def that may be called by its name -/
structure Cal (P : Program) (w : World) (K : PySem.W.Frag) (mg : Str → Option Value) (base : Heap) (k : Nat) (x : Str) (F : FV) : Prop where
  ex : ∃ (f : Addr) (fd : FuncData) (ps : List Str), FnOk P w K mg base (L2.CX P w) k f fd ps (spD K mg F) ∧ mg x = some (.ref f) ∧ PySem.W.keepIn K (.ref f) = true ∧ Binds K fd ps []
section
variable {P : Program} {w : World} {K : PySem.W.Frag} {mg : Str → Option Value} {base : Heap}
theorem Sim.start {hd μ : List Addr} {st : Sto} {H : Hp} {args : List Val} {vs : List V} {N : Nat} {Ns : List Str} (o : StoOk K mg hd μ st H) (r : RepL K mg hd μ H args vs) (hN : Ns.length = N) : Sim K mg hd μ (args.map some ++ List.replicate (N - args.length) none) st (L2.start Ns vs) H := by
  refine ⟨o, ?_, fun i v h => ?_⟩
  · unfold L2.start
    rw [List.length_append, List.length_append, List.length_map, List.length_map, List.length_replicate, List.length_replicate, r.len, hN]
  · by_cases hi : i < args.length
    · rw [List.getElem?_append_left (by rw [List.length_map]; exact hi), List.getElem?_map] at h
      cases e : args[i]? with
      | none => rw [e] at h; cases h
      | some w' =>
        rw [e] at h
        cases h
        obtain ⟨x, h1, h2⟩ := r.get e
        refine ⟨x, ?_, h2⟩
        unfold L2.start
        rw [List.getElem?_append_left (by rw [List.length_map, ← r.len]; exact hi), List.getElem?_map, h1]
        rfl
    · rw [List.getElem?_append_right (by rw [List.length_map]; omega), List.getElem?_replicate] at h
      split at h <;> cases h
theorem fn_d {x qual : Str} {st : Stmt} {f : Addr} {fd : FuncData} {N ps : List Str} {k : Nat} {body : MS} (F : Fun K x qual st f fd) (S : FnScope N ps (defScope st))
    (hbody : ∀ (cdv : Value) (A : Around) (outer : List Env) (s : Shared) (H : Hp) (E : XK), Room k (A.deeper (envOfC qual (defScope st) s.heap.objs.size f cdv)) →
      PSs (cxOf (L2.CX P w) P w K mg base N qual (defScope st) f cdv A outer s H E) (defBody st) (TDS K mg (fun cls d _ H => E cls d H) body)) :
    FnOk P w K mg base (L2.CX P w) (k + 1) f fd ps (spD K mg (runB ps.length N.length body)) := by
  refine F.okX S (fun vs H Q E h => spD_len runB_arity vs H Q E h) (fun cdv A outer s H vs Q E hr h => ⟨_, hbody cdv A outer s H E hr, ?_⟩)
  obtain ⟨hd, μ, st0, args, o, r, G⟩ := h
  unfold runB at G
  by_cases e : args.length = ps.length
  · rw [if_pos e] at G
    refine TDS_def.mpr ⟨hd, μ, _, st0, Sim.start (N := N.length) o r rfl, ?_⟩
    rw [e]
    cases hb : body (args.map some ++ List.replicate (N.length - ps.length) none) st0 with
    | next ρ' st' =>
      rw [hb] at G
      exact fun μ' H' σ' e' S' => G μ' H' e' S'.sto _ .non
    | ret v st' =>
      rw [hb] at G
      exact fun μ' H' x e' o' rx => G μ' H' e' o' _ rx
    | brk => rw [hb] at G; exact G.elim
    | cnt => rw [hb] at G; exact G.elim
    | exc c ρ' st' =>
      rw [hb] at G
      exact fun μ' H' σ' e' S' => G μ' H' e' S'.sto
    | stuck => rw [hb] at G; exact G.elim
  · rw [if_neg e] at G
    exact G.elim
end
section
variable {X : Cx} {W : WX} {k j : Nat} {x : Str} {F : FV} {p pos : Pos} {e : Expr} {es : List Expr} {ms : MA}
theorem sp_of {σ : St} {H : Hp} {Q : VK} (h : TD X.K X.mg W (mCall F ms) σ H Q) : tCallS (spD X.K X.mg F) (WE W) (TDA X.K X.mg W ms) σ H Q := by
  obtain ⟨hd, μ, ρ, st, S, G⟩ := h
  exact ⟨hd, μ, ρ, st, S, Good.imp (Good.bind G) (fun μ1 st1 H1 vs e1 o1 G1 xs rxs => ⟨hd, μ1, st1, vs, o1, rxs, G1⟩) fun _ _ h => h⟩
theorem d_call (c : Cal X.prog X.w X.K X.mg X.base k x F) (tk : Takes X W) (hr : Room j X.A) (hk : k ≤ j) (hg : Gl X x) (ha : PA X (e :: es) (TDA X.K X.mg W ms))
    (hdb : (x == ("__debug__" : Str)) = false := by decide) (he : starEach (e :: es) X.env = (false, eval e X.env) :: starEach es X.env := by rfl) (hpl : (backTo pos (starEach es X.env)).any (·.1) = false := by rfl) :
    PE X (.Call (.Name x p) (e :: es) [] pos) (TD X.K X.mg W (mCall F ms)) := by
  obtain ⟨f, fd, ps, G, hm, kp, b⟩ := c.ex
  exact PE.imp (pe_callS G (hr.mono hk) hg hm kp b (fun σ => passAt tk σ) ha hdb he hpl) fun _ _ _ h => sp_of h
/-- raise X('..') -/
theorem ds_raise {m : Str} {jj : Nat} {p2 p3 : Pos} {C : Addr} {bmB : List Value} {B newId initId : String} (hc : X.calm = true) (tk : Takes X W) (Fx : PySem.ExcBaseFacts B newId initId bmB) (q : PySem.W.excIn X.K C bmB newId = true) (gC : X.mg x = some (.ref C)) (kC : PySem.W.keepIn X.K (.ref C) = true) (r : Raises X (.ref C)) (hg : Gl X x)
    (hdb : (x == ("__debug__" : Str)) = false := by decide) : PS X (.Raise (some (.Call (.Name x p) [.Constant (.str m) jj p2] [] p3)) none pos) (TDS X.K X.mg W (mRaise x)) :=
  PS.imp (ps_raise hc tk (pmk_own Fx q gC kC r hg hdb)) fun D σ H h => by
    obtain ⟨hd, μ, ρ, st, S, G⟩ := TDS_def.mp h
    obtain ⟨C', h1, h2⟩ := G μ H σ Ext.refl S
    rw [gC] at h1
    cases h1
    exact h2
end
end DL

namespace DL
open PySem PySem.Spec PyProof.Rows L2

/-! ### values as data -/
mutual
def Val.data : Val → Option PyData
  | .non => some .none
  | .bl b => some (.bool b)
  | .int i => some (.int i)
  | .str x => some (.str x)
  | .tup vs => (Val.datas vs).map .tuple
  | .tpl vs => (Val.datas vs).map .tuple
  | .tpk vs => (Val.datas vs).map .tuple
  | .lst vs => (Val.datas vs).map .list
  | .rol vs => (Val.datas vs).map .list
  | _ => none
def Val.datas : List Val → Option (List PyData)
  | [] => some []
  | v :: vs => match Val.data v, Val.datas vs with
    | some d, some ds => some (d :: ds)
    | _, _ => none
end
section
variable {K : PySem.W.Frag} {mg : Str → Option Value} {hd : List Addr} {μ : List Addr} {H : Hp}
mutual
theorem Rep.dp : ∀ (v : Val) (x : V) (d : PyData), Rep K mg hd μ H v x → v.data = some d → Dp K H x d
  | .non, _, _, h, e => by cases h; cases e; exact .non
  | .bl b, _, _, h, e => by cases h; cases e; exact .bl b
  | .int i, _, _, h, e => by cases h; cases e; exact .int i
  | .str i, _, _, h, e => by cases h; cases e; exact .str i
  | .tup vs, _, _, h, e => by
    cases h with
    | tup h1 h2 =>
      simp only [Val.data] at e
      cases hq : Val.datas vs with
      | none => rw [hq] at e; cases e
      | some ds =>
        rw [hq] at e
        cases e
        exact .tup h1 (RepL.dp vs _ _ h2 hq)
  | .tpl vs, _, _, h, e => by
    cases h with
    | tpl h1 h2 =>
      simp only [Val.data] at e
      cases hq : Val.datas vs with
      | none => rw [hq] at e; cases e
      | some ds =>
        rw [hq] at e
        cases e
        exact .tup h1.sq (RepL.dp vs _ _ h2 hq)
  | .tpk vs, _, _, h, e => by
    cases h with
    | tpk h1 h2 h0 h3 =>
      simp only [Val.data] at e
      cases hq : Val.datas vs with
      | none => rw [hq] at e; cases e
      | some ds =>
        rw [hq] at e
        cases e
        exact .tup (.inl (.inl h1)) (RepL.dp vs _ _ h3 hq)
  | .lst vs, _, _, h, e => by
    cases h with
    | lst h1 h2 h0 h3 =>
      simp only [Val.data] at e
      cases hq : Val.datas vs with
      | none => rw [hq] at e; cases e
      | some ds =>
        rw [hq] at e
        cases e
        exact .lst (SqL.of h1) (RepL.dp vs _ _ h3 hq)
  | .rol vs, _, _, h, e => by
    cases h with
    | rol h1 h2 =>
      simp only [Val.data] at e
      cases hq : Val.datas vs with
      | none => rw [hq] at e; cases e
      | some ds =>
        rw [hq] at e
        cases e
        exact .lst h1.sq (RepL.dp vs _ _ h2 hq)
  | .dic kvs, _, _, h, e => by cases e
  | .dit kvs, _, _, h, e => by cases e
  | .ref l, _, _, h, e => by cases e
  | .fn x, _, _, h, e => by cases e
theorem RepL.dp : ∀ (vs : List Val) (xs : List V) (ds : List PyData), RepL K mg hd μ H vs xs → Val.datas vs = some ds → DpAll K H xs ds
  | [], _, _, h, e => by cases h; cases e; exact .nil
  | v :: vs, _, _, h, e => by
    cases h with
    | cons h1 h2 =>
      simp only [Val.datas] at e
      cases hq : Val.data v with
      | none => rw [hq] at e; cases e
      | some d =>
        cases hr : Val.datas vs with
        | none => rw [hq, hr] at e; cases e
        | some ds =>
          rw [hq, hr] at e
          cases e
          exact .cons (Rep.dp v _ _ h1 hq) (RepL.dp vs _ _ h2 hr)
end
end
def Val.isRef : Val → Bool
  | .ref _ => true
  | _ => false
def lstAt (st : Sto) (l : Nat) : Option (List Val) := match st[l]? with
  | some (.lst vs) => some vs
  | _ => none
def topData (v : Val) (st : Sto) : Option PyData := match v with
  | .ref l => (lstAt st l).bind fun vs => (Val.datas vs).map .list
  | v => v.data
theorem topData_dp {K : PySem.W.Frag} {mg : Str → Option Value} {hd : List Addr} {μ : List Addr} {H : Hp} {st : Sto} (o : StoOk K mg hd μ st H) {v : Val} {x : V} {d : PyData} (r : Rep K mg hd μ H v x) (e : topData v st = some d) : Dp K H x d := by
  cases r with
  | @ref l a hl =>
    unfold topData lstAt at e
    cases hc : st[l]? with
    | none => simp only [hc, Option.bind] at e; cases e
    | some c =>
      cases c with
      | lst vs =>
        simp only [hc, Option.bind] at e
        cases hq : Val.datas vs with
        | none => rw [hq] at e; cases e
        | some ds =>
          rw [hq] at e
          cases e
          obtain ⟨xs, h1, h2⟩ := o.cell l a _ hl hc
          exact .lst (SqL.of h1) (RepL.dp vs _ _ h2 hq)
      | _ => simp only [hc, Option.bind] at e; cases e
  | non => cases e; exact .non
  | bl b => cases e; exact .bl b
  | int b => cases e; exact .int b
  | str b => cases e; exact .str b
  | tup h1 h2 => exact Rep.dp (hd := hd) (μ := μ) (mg := mg) (.tup _) _ _ (.tup h1 h2) e
  | tpl h1 h2 => exact Rep.dp (hd := hd) (μ := μ) (mg := mg) (.tpl _) _ _ (.tpl h1 h2) e
  | tpk h1 h2 h0 h3 => exact Rep.dp (hd := hd) (μ := μ) (mg := mg) (.tpk _) _ _ (.tpk h1 h2 h0 h3) e
  | lst h1 h2 h0 h3 => exact Rep.dp (hd := hd) (μ := μ) (mg := mg) (.lst _) _ _ (.lst h1 h2 h0 h3) e
  | rol h1 h2 => exact Rep.dp (hd := hd) (μ := μ) (mg := mg) (.rol _) _ _ (.rol h1 h2) e
  | dic h1 h2 h3 => cases e
  | dit h1 h2 h3 => cases e
  | fn h1 => cases e
def eqF (v w : Val) (st : Sto) : Res Val := match topData v st, topData w st with
  | some d, some e => if SeqAt.shaped d = true ∧ SeqAt.shaped e = true then .ok (.bl (PyData.eqv d e)) st else .stuck
  | _, _ => .stuck
def neF (v w : Val) (st : Sto) : Res Val := match topData v st, topData w st with
  | some d, some e => if SeqAt.shaped d = true ∧ SeqAt.shaped e = true then .ok (.bl (!PyData.eqv d e)) st else .stuck
  | _, _ => .stuck
theorem eqF_ok {X : Cx} (hu : X.A.units + 64 < cLine) : OpD X (compareOp .Eq) eqF := by
  intro pins s σ H x y v u Q I rv ru ⟨hd, μ, st, v', w', o, r1, r2, G⟩
  unfold eqF at G
  cases h1 : topData v' st with
  | none => rw [h1] at G; exact G.elim
  | some d =>
    cases h2 : topData w' st with
    | none => rw [h1, h2] at G; exact G.elim
    | some e =>
      rw [h1, h2] at G
      dsimp only at G
      by_cases hs : SeqAt.shaped d = true ∧ SeqAt.shaped e = true
      · rw [if_pos hs] at G
        exact op_eqD hu pins s σ H x y v u Q I rv ru ⟨d, e, topData_dp o r1 h1, topData_dp o r2 h2, hs.1, hs.2, G.here o _ (.bl _)⟩
      · rw [if_neg hs] at G
        exact G.elim
theorem neF_ok {X : Cx} (hu : X.A.units + 64 < cLine) : OpD X (compareOp .NotEq) neF := by
  intro pins s σ H x y v u Q I rv ru ⟨hd, μ, st, v', w', o, r1, r2, G⟩
  unfold neF at G
  cases h1 : topData v' st with
  | none => rw [h1] at G; exact G.elim
  | some d =>
    cases h2 : topData w' st with
    | none => rw [h1, h2] at G; exact G.elim
    | some e =>
      rw [h1, h2] at G
      dsimp only at G
      by_cases hs : SeqAt.shaped d = true ∧ SeqAt.shaped e = true
      · rw [if_pos hs] at G
        exact op_neD hu pins s σ H x y v u Q I rv ru ⟨d, e, topData_dp o r1 h1, topData_dp o r2 h2, hs.1, hs.2, G.here o _ (.bl _)⟩
      · rw [if_neg hs] at G
        exact G.elim
theorem eqF_ne : NoExc2 eqF := fun v w st c st' h => by
  unfold eqF at h
  split at h
  · split at h <;> cases h
  · cases h
theorem neF_ne : NoExc2 neF := fun v w st c st' h => by
  unfold neF at h
  split at h
  · split at h <;> cases h
  · cases h
/-! ### whole numbers -/
def ltF : Val → Val → Sto → Res Val
  | .int i, .int j, st => .ok (.bl (decide (i < j))) st
  | _, _, _ => .stuck
def leF : Val → Val → Sto → Res Val
  | .int i, .int j, st => .ok (.bl (decide (i ≤ j))) st
  | _, _, _ => .stuck
def gtF : Val → Val → Sto → Res Val
  | .int i, .int j, st => .ok (.bl (decide (j < i))) st
  | _, _, _ => .stuck
def geF : Val → Val → Sto → Res Val
  | .int i, .int j, st => .ok (.bl (decide (j ≤ i))) st
  | _, _, _ => .stuck
section
variable {X : Cx}
theorem ints_ok {f : Value → Value → Sem Value} {F : Val → Val → Sto → Res Val} {C : Int → Int → Prop} {g : Int → Int → V} {g' : Int → Int → Val} (hop : OpR X f (rI C g))
    (hF : ∀ v w st, F v w st ≠ .stuck → ∃ i j, v = .int i ∧ w = .int j ∧ C i j ∧ F v w st = .ok (g' i j) st) (hr : ∀ i j hd μ H, Rep X.K X.mg hd μ H (g' i j) (g i j)) : OpD X f F := by
  intro pins s σ H x y v u Q I rv ru ⟨hd, μ, st, v', w', o, r1, r2, G⟩
  by_cases hs : F v' w' st = .stuck
  · rw [hs] at G; exact G.elim
  · obtain ⟨i, j, rfl, rfl, hc, e⟩ := hF _ _ _ hs
    rw [e] at G
    cases r1
    cases r2
    exact hop pins s σ H _ _ v u Q I rv ru ⟨i, j, rfl, rfl, hc, G.here o _ (hr i j _ _ _)⟩
theorem of_rI0 {f : Value → Value → Sem Value} {g : Int → Int → V} (h : OpR X f (rI0 g)) : OpR X f (rI (fun _ _ => True) g) :=
  fun pins s σ H x y v u Q I rv ru ⟨i, j, e1, e2, _, q⟩ => h pins s σ H x y v u Q I rv ru ⟨i, j, e1, e2, q⟩
theorem cmp_ints {f : Value → Value → Sem Value} {p : Int → Int → Bool} {F : Val → Val → Sto → Res Val} (h : OpR X f (rI0 fun i j => .bl (p i j))) (hF : ∀ v w st, F v w st ≠ .stuck → ∃ i j, v = .int i ∧ w = .int j ∧ F v w st = .ok (.bl (p i j)) st) : OpD X f F :=
  ints_ok (g' := fun i j => .bl (p i j)) (of_rI0 h) (fun v w st hs => by
    obtain ⟨i, j, e1, e2, e3⟩ := hF v w st hs
    exact ⟨i, j, e1, e2, trivial, e3⟩) fun i j _ _ _ => .bl _
theorem ltF_ok : OpD X (compareOp .Lt) ltF := cmp_ints op_lt fun v w st h => by
  unfold ltF at h
  split at h
  · exact ⟨_, _, rfl, rfl, rfl⟩
  · exact absurd rfl h
theorem leF_ok : OpD X (compareOp .LtE) leF := cmp_ints op_le fun v w st h => by
  unfold leF at h
  split at h
  · exact ⟨_, _, rfl, rfl, rfl⟩
  · exact absurd rfl h
theorem gtF_ok : OpD X (compareOp .Gt) gtF := cmp_ints op_gt fun v w st h => by
  unfold gtF at h
  split at h
  · exact ⟨_, _, rfl, rfl, rfl⟩
  · exact absurd rfl h
theorem geF_ok : OpD X (compareOp .GtE) geF := cmp_ints op_ge fun v w st h => by
  unfold geF at h
  split at h
  · exact ⟨_, _, rfl, rfl, rfl⟩
  · exact absurd rfl h
theorem ltF_ne : NoExc2 ltF := fun v w st c st' h => by unfold ltF at h; split at h <;> cases h
theorem leF_ne : NoExc2 leF := fun v w st c st' h => by unfold leF at h; split at h <;> cases h
theorem gtF_ne : NoExc2 gtF := fun v w st c st' h => by unfold gtF at h; split at h <;> cases h
theorem geF_ne : NoExc2 geF := fun v w st c st' h => by unfold geF at h; split at h <;> cases h
end
def subF : Val → Val → Sto → Res Val
  | .int i, .int j, st => .ok (.int (i - j)) st
  | _, _, _ => .stuck
def modF : Val → Val → Sto → Res Val
  | .int i, .int j, st => if 0 < j then .ok (.int (i % j)) st else .stuck
  | _, _, _ => .stuck
noncomputable def divF : Val → Val → Sto → Res Val
  | .int i, .int j, st => @ite _ (0 < j ∧ j < 2 ^ 2000) (Classical.propDecidable _) (.ok (.int (i / j)) st) .stuck
  | _, _, _ => .stuck
noncomputable def powF : Val → Val → Sto → Res Val
  | .int i, .int j, st => @ite _ (0 ≤ j ∧ j ≤ 1000000 ∧ i.natAbs < 2 ^ 64) (Classical.propDecidable _) (.ok (.int (i ^ j.toNat)) st) .stuck
  | _, _, _ => .stuck
section
variable {X : Cx}
theorem subF_ok : OpD X (binaryOp .Sub) subF := ints_ok (g' := fun i j => .int (i - j)) (of_rI0 op_sub) (fun v w st h => by
  unfold subF at h
  split at h
  · exact ⟨_, _, rfl, rfl, trivial, rfl⟩
  · exact absurd rfl h) fun i j _ _ _ => .int _
theorem modF_ok : OpD X (binaryOp .Mod) modF := ints_ok (g' := fun i j => .int (i % j)) op_mod (fun v w st h => by
  unfold modF at h ⊢
  split at h
  · split at h
    · rename_i hp; exact ⟨_, _, rfl, rfl, hp, if_pos hp⟩
    · exact absurd rfl h
  · exact absurd rfl h) fun i j _ _ _ => .int _
theorem divF_ok : OpD X (binaryOp .FloorDiv) divF := ints_ok (g' := fun i j => .int (i / j)) op_fdivW (fun v w st h => by
  unfold divF at h ⊢
  split at h
  · split at h
    · rename_i hp; exact ⟨_, _, rfl, rfl, wide_div (b := 2000) hp.1 (by omega) (by decide) (by decide), if_pos hp⟩
    · exact absurd rfl h
  · exact absurd rfl h) fun i j _ _ _ => .int _
theorem powF_ok : OpD X (binaryOp .Pow) powF := ints_ok (g' := fun i j => .int (i ^ j.toNat)) op_pow (fun v w st h => by
  unfold powF at h ⊢
  split at h
  · split at h
    · rename_i hp; exact ⟨_, _, rfl, rfl, hp, if_pos hp⟩
    · exact absurd rfl h
  · exact absurd rfl h) fun i j _ _ _ => .int _
theorem subF_ne : NoExc2 subF := fun v w st c st' h => by unfold subF at h; split at h <;> cases h
theorem modF_ne : NoExc2 modF := fun v w st c st' h => by
  unfold modF at h
  split at h
  · split at h <;> cases h
  · cases h
theorem divF_ne : NoExc2 divF := fun v w st c st' h => by
  unfold divF at h
  split at h
  · split at h <;> cases h
  · cases h
theorem powF_ne : NoExc2 powF := fun v w st c st' h => by
  unfold powF at h
  split at h
  · split at h <;> cases h
  · cases h
end
/-! ### +, * of numbers, texts, tuples, lists -/
/-- a list's items, its own list | a cell -/
def listOf (v : Val) (st : Sto) : Option (List Val) := match v with
  | .lst vs => some vs
  | .ref l => lstAt st l
  | _ => none
theorem listOf_at {K : PySem.W.Frag} {mg : Str → Option Value} {hd : List Addr} {μ : List Addr} {H : Hp} {st : Sto} (o : StoOk K mg hd μ st H) {v : Val} {x : V} {vs : List Val} (r : Rep K mg hd μ H v x) (e : listOf v st = some vs) :
    ∃ a xs, x = .ref a ∧ H a = some (.lst xs) ∧ RepL K mg hd μ H vs xs := by
  cases r with
  | @ref l a hl =>
    unfold listOf lstAt at e
    cases hc : st[l]? with
    | none => simp only [hc] at e; cases e
    | some c =>
      cases c with
      | lst ws =>
        simp only [hc] at e
        cases e
        obtain ⟨xs, h1, h2⟩ := o.cell l a _ hl hc
        exact ⟨a, xs, rfl, h1, h2⟩
      | _ => simp only [hc] at e; cases e
  | lst h1 h2 h0 h3 =>
    cases e
    exact ⟨_, _, rfl, h1, h3⟩
  | _ => cases e
/-- a new list as a value -/
theorem new_lst {K : PySem.W.Frag} {mg : Str → Option Value} {hd : List Addr} {μ : List Addr} {H : Hp} {st : Sto} (o : StoOk K mg hd μ st H) {vs : List Val} {xs : List V} {p : Addr} (r : RepL K mg hd μ H vs xs) (hp : H p = none) : Rep K mg hd μ (upd H p (.lst xs)) (.lst vs) (.ref p) :=
  .lst upd_same (nin_of o hp) (nhid_of o hp) (RepL.ext (Ext.obj hp) _ _ r)
def addF (v w : Val) (st : Sto) : Res Val := match v, w with
  | .int i, .int j => .ok (.int (i + j)) st
  | .str x, .str y => if x.length + y.length ≤ sizeLine then .ok (.str (x ++ y)) st else .stuck
  | .tup vs, .tup ws => if vs.length + ws.length ≤ sizeLine then .ok (.tup (vs ++ ws)) st else .stuck
  | v, w => match listOf v st, listOf w st with
    | some vs, some ws => if vs.length + ws.length ≤ sizeLine then .ok (.lst (vs ++ ws)) st else .stuck
    | _, _ => .stuck
theorem addF_ne : NoExc2 addF := fun v w st c st' h => by
  unfold addF at h
  split at h
  · cases h
  · split at h <;> cases h
  · split at h <;> cases h
  · split at h
    · split at h <;> cases h
    · cases h
theorem addF_ok {X : Cx} : OpD X (binaryOp .Add) addF := by
  intro pins s σ H x y v u Q I rv ru ⟨hd, μ, st, v', w', o, r1, r2, G⟩
  unfold addF at G
  split at G
  · cases r1
    cases r2
    exact op_add pins s σ H _ _ v u Q I rv ru ⟨_, _, rfl, rfl, G.here o _ (.int _)⟩
  · split at G
    · rename_i hz
      cases r1
      cases r2
      exact op_add_str pins s σ H _ _ v u Q I rv ru ⟨_, _, rfl, rfl, hz, G.here o _ (.str _)⟩
    · exact G.elim
  · split at G
    · rename_i vs ws hz
      cases r1 with
      | tup h1 h2 =>
        cases r2 with
        | tup h3 h4 =>
          refine op_catA pins s σ H _ _ v u Q I rv ru ⟨_, _, _, _, rfl, rfl, h1, h3, by rw [← h2.len, ← h4.len]; exact hz, fun e => ?_, fun _ e => ?_, fun _ _ p hp => ?_⟩
          · subst e
            cases h2
            exact G.here o _ (.tup h3 h4)
          · subst e
            cases h4
            exact G.here o _ (.tup h1 (by rw [List.append_nil]; exact h2))
          · exact G μ _ (Ext.obj hp) (o.obj hp) _ (.tup (SqT.of upd_same) (RepL.ext (Ext.obj hp) _ _ (h2.append h4)))
    · exact G.elim
  · split at G
    · rename_i vs ws e1 e2
      split at G
      · rename_i hz
        obtain ⟨a, xs, rfl, h1, h2⟩ := listOf_at o r1 e1
        obtain ⟨b, ys, rfl, h3, h4⟩ := listOf_at o r2 e2
        refine op_cat pins s σ H _ _ v u Q I rv ru ⟨a, b, xs, ys, rfl, rfl, h1, h3, by rw [← h2.len, ← h4.len]; exact hz, fun p hp => ?_⟩
        exact G μ _ (Ext.obj hp) (o.obj hp) _ (new_lst o (h2.append h4) hp)
      · exact G.elim
    · exact G.elim
theorem RepL.flat {K : PySem.W.Frag} {mg : Str → Option Value} {hd : List Addr} {μ : List Addr} {H : Hp} {vs : List Val} {xs : List V} (r : RepL K mg hd μ H vs xs) : ∀ k : Nat, RepL K mg hd μ H (List.replicate k vs).flatten (List.replicate k xs).flatten
  | 0 => .nil
  | k + 1 => by
    rw [List.replicate_succ, List.flatten_cons, List.replicate_succ, List.flatten_cons]
    exact r.append (RepL.flat r k)
noncomputable def mulF (v w : Val) (st : Sto) : Res Val := match v, w with
  | .int i, .int j => @ite _ ((-(2 ^ 64) < i ∧ i < 2 ^ 64) ∨ (-(2 ^ 64) < j ∧ j < 2 ^ 64)) (Classical.propDecidable _) (.ok (.int (i * j)) st) .stuck
  | .tup vs, .int k => @ite _ (vs ≠ [] ∧ 2 ≤ k ∧ k ≤ 1000 ∧ vs.length ≤ 1000) (Classical.propDecidable _) (.ok (.tup (List.replicate k.toNat vs).flatten) st) .stuck
  | v, .int k => match listOf v st with
    | some vs => @ite _ (-(2 ^ 63) ≤ k ∧ k < 2 ^ 63 ∧ vs.length * k.toNat ≤ sizeLine) (Classical.propDecidable _) (.ok (.lst (List.replicate k.toNat vs).flatten) st) .stuck
    | none => .stuck
  | _, _ => .stuck
theorem mulF_ne : NoExc2 mulF := fun v w st c st' h => by
  unfold mulF at h
  split at h
  · split at h <;> cases h
  · split at h <;> cases h
  · split at h
    · split at h <;> cases h
    · cases h
  · cases h
theorem mulF_ok {X : Cx} : OpD X (binaryOp .Mult) mulF := by
  intro pins s σ H x y v u Q I rv ru ⟨hd, μ, st, v', w', o, r1, r2, G⟩
  unfold mulF at G
  split at G
  · split at G
    · rename_i hz
      cases r1
      cases r2
      exact op_mul pins s σ H _ _ v u Q I rv ru ⟨_, _, rfl, rfl, hz, G.here o _ (.int _)⟩
    · exact G.elim
  · split at G
    · rename_i vs k hz
      cases r2
      cases r1 with
      | tup h1 h2 =>
        refine op_repT pins s σ H _ _ v u Q I rv ru ⟨_, _, _, rfl, rfl, h1, ?_, hz.2.1, hz.2.2.1, by rw [← h2.len]; exact hz.2.2.2, fun p hp => ?_⟩
        · rintro rfl
          cases h2
          exact hz.1 rfl
        · exact G μ _ (Ext.obj hp) (o.obj hp) _ (.tup (SqT.of upd_same) (RepL.ext (Ext.obj hp) _ _ (h2.flat _)))
    · exact G.elim
  · split at G
    · rename_i vs e1
      split at G
      · rename_i hz
        cases r2
        obtain ⟨a, xs, rfl, h1, h2⟩ := listOf_at o r1 e1
        refine op_rep pins s σ H _ _ v u Q I rv ru ⟨a, _, xs, rfl, rfl, h1, hz.1, hz.2.1, by rw [← h2.len]; exact hz.2.2, fun p hp => ?_⟩
        exact G μ _ (Ext.obj hp) (o.obj hp) _ (new_lst o (h2.flat _) hp)
      · exact G.elim
    · exact G.elim
  · exact G.elim
/-! ### is None -/
def isNF : Val → Sto → Res Val
  | .non, st => .ok (.bl true) st
  | _, st => .ok (.bl false) st
end DL

namespace DL
open PySem PySem.Spec PyProof.Rows L2

def NoExc1 (F : FV) : Prop := ∀ vs st c st', F vs st ≠ .exc c st'
def rC (K : PySem.W.Frag) (mg : Str → Option Value) (F : FV) : List V → Hp → VK → Prop := fun xs H Q => ∃ hd μ st vs, StoOk K mg hd μ st H ∧ RepL K mg hd μ H vs xs ∧
  Good K mg hd μ H (F vs st) (fun μ' _ H' v => ∀ x, Rep K mg hd μ' H' v x → Q x H') (fun _ _ => False)
def CallD (X : Cx) (f : Value) (F : FV) : Prop := CallR X f (rC X.K X.mg F)
section
variable {X : Cx} {W : WX} {x : Str} {id T : String} {p pos : Pos} {e : Expr} {es : List Expr} {F : FV} {ms : MA}
theorem tCB_of (hF : NoExc1 F) {σ : St} {H : Hp} {Q : VK} (h : TD X.K X.mg W (mCall F ms) σ H Q) : tCB (rC X.K X.mg F) (TDA X.K X.mg W ms) σ H Q := by
  obtain ⟨hd, μ, ρ, st, S, G⟩ := h
  refine ⟨hd, μ, ρ, st, S, Good.imp (Good.bind G) (fun μ1 st1 H1 vs e1 o1 G1 xs rxs => ⟨hd, μ1, st1, vs, o1, rxs, ?_⟩) fun _ _ h => h⟩
  cases hr : F vs st1 with
  | ok v st2 => rw [hr] at G1; exact G1
  | exc c st2 => exact absurd hr (hF _ _ _ _)
  | stuck => rw [hr] at G1; exact G1
theorem d_cb (hc : CallD X (.builtin id) F) (hF : NoExc1 F) (hg : Gl X x) (hm : X.mg x = none) (hv : bootBuiltins x = some (.builtin id)) (ha : PA X (e :: es) (TDA X.K X.mg W ms)) (hn : x ≠ "__name__" := by decide) (hdb : (x == ("__debug__" : Str)) = false := by decide)
    (he : starEach (e :: es) X.env = (false, eval e X.env) :: starEach es X.env := by rfl) (hpl : (backTo pos (starEach es X.env)).any (·.1) = false := by rfl) : PE X (.Call (.Name x p) (e :: es) [] pos) (TD X.K X.mg W (mCall F ms)) :=
  PE.imp (pe_callB hc hg hm hv ha hn hdb he hpl) fun _ _ _ h => tCB_of hF h
theorem d_ct (hc : CallD X (.type T) F) (hF : NoExc1 F) (hg : Gl X x) (hm : X.mg x = none) (hv : bootBuiltins x = some (.type T)) (ha : PA X (e :: es) (TDA X.K X.mg W ms)) (hn : x ≠ "__name__" := by decide) (hdb : (x == ("__debug__" : Str)) = false := by decide)
    (he : starEach (e :: es) X.env = (false, eval e X.env) :: starEach es X.env := by rfl) (hpl : (backTo pos (starEach es X.env)).any (·.1) = false := by rfl) : PE X (.Call (.Name x p) (e :: es) [] pos) (TD X.K X.mg W (mCall F ms)) :=
  PE.imp (pe_callTy hc hg hm hv ha hn hdb he hpl) fun _ _ _ h => tCB_of hF h
end
/-- F of one value that hands on a value of the same state -/
theorem call1 {X : Cx} {f : Value} {F : FV} {G : Val → Sto → Option Val} (hF : ∀ vs st, F vs st ≠ .stuck → ∃ v r, vs = [v] ∧ G v st = some r ∧ F vs st = .ok r st)
    (run : ∀ (pins : List (Addr × Obj)) (s : Shared) (σ : St) (H : Hp) (x : V) (u : Value) (Q : VK) (hd μ : List Addr) (st : Sto) (v r : Val), Inv X pins σ H s → RelV x u → StoOk X.K X.mg hd μ st H → Rep X.K X.mg hd μ H v x → G v st = some r →
      (∀ μ' H' z, Ext μ H μ' H' → StoOk X.K X.mg hd μ' st H' → Rep X.K X.mg hd μ' H' r z → Q z H') → wpAny (model X.prog X.w) X.A (call f [u]) (EP X pins σ Q) X.xe s) : CallD X f F := by
  intro pins s σ H xs us Q I rv ⟨hd, μ, st, vs, o, r, Gd⟩
  by_cases hs : F vs st = .stuck
  · rw [hs] at Gd; exact Gd.elim
  · obtain ⟨v, r', rfl, g, e⟩ := hF _ _ hs
    rw [e] at Gd
    cases r with
    | cons r1 r2 =>
      cases r2
      obtain ⟨u, rfl, ru⟩ := vals1 rv
      exact run pins s σ H _ u Q hd μ st v r' I ru o r1 g fun μ' H' z e' o' rz => Gd μ' H' e' o' z rz
def lift1 (G : Val → Sto → Option Val) : FV := fun vs st => match vs with
  | [v] => match G v st with
    | some r => .ok r st
    | none => .stuck
  | _ => .stuck
theorem lift1_ne {G : Val → Sto → Option Val} : NoExc1 (lift1 G) := fun vs st c st' h => by
  unfold lift1 at h
  split at h
  · split at h <;> cases h
  · cases h
theorem lift1_of {G : Val → Sto → Option Val} (vs : List Val) (st : Sto) (h : lift1 G vs st ≠ .stuck) : ∃ v r, vs = [v] ∧ G v st = some r ∧ lift1 G vs st = .ok r st := by
  unfold lift1 at h ⊢
  split at h
  · rename_i v
    cases e : G v st with
    | none => rw [e] at h; exact absurd rfl h
    | some r => exact ⟨v, r, rfl, e, by simp only [e]⟩
  · exact absurd rfl h
/-- what may be read as a list | a tuple -/
def seqOf (v : Val) (st : Sto) : Option (List Val) := match v with
  | .tup vs => some vs
  | .tpl vs => some vs
  | .tpk vs => some vs
  | .lst vs => some vs
  | .rol vs => some vs
  | .ref l => lstAt st l
  | _ => none
theorem seqOf_at {K : PySem.W.Frag} {mg : Str → Option Value} {hd : List Addr} {μ : List Addr} {H : Hp} {st : Sto} (o : StoOk K mg hd μ st H) {v : Val} {x : V} {vs : List Val} (r : Rep K mg hd μ H v x) (e : seqOf v st = some vs) :
    ∃ a xs, x = .ref a ∧ (SqL K H a xs ∨ SqT K H a xs) ∧ RepL K mg hd μ H vs xs := by
  cases r with
  | @ref l a hl =>
    obtain ⟨a', xs, h1, h2, h3⟩ := listOf_at o (.ref hl) (show listOf (.ref l) st = some vs from e)
    exact ⟨a', xs, h1, .inl (SqL.of h2), h3⟩
  | tup h1 h2 => cases e; exact ⟨_, _, rfl, .inr h1, h2⟩
  | tpl h1 h2 => cases e; exact ⟨_, _, rfl, .inr h1.sq, h2⟩
  | tpk h1 h2 h0 h3 => cases e; exact ⟨_, _, rfl, .inr (.inl (.inl h1)), h3⟩
  | lst h1 h2 h0 h3 => cases e; exact ⟨_, _, rfl, .inl (SqL.of h1), h3⟩
  | rol h1 h2 => cases e; exact ⟨_, _, rfl, .inl h1.sq, h2⟩
  | _ => cases e
def dictOf (v : Val) (st : Sto) : Option (List (Key × V)) := match v with
  | .dic kvs => some kvs
  | .ref l => match st[l]? with
    | some (.dic kvs) => some kvs
    | some (.rod kvs) => some kvs
    | _ => none
  | _ => none
theorem dictOf_at {K : PySem.W.Frag} {mg : Str → Option Value} {hd : List Addr} {μ : List Addr} {H : Hp} {st : Sto} (o : StoOk K mg hd μ st H) {v : Val} {x : V} {kvs : List (Key × V)} (r : Rep K mg hd μ H v x) (e : dictOf v st = some kvs) :
    ∃ a, x = .ref a ∧ Rd H a (.dK kvs) := by
  cases r with
  | @ref l a hl =>
    unfold dictOf at e
    cases hc : st[l]? with
    | none => simp only [hc] at e; cases e
    | some c =>
      have q := o.cell l a _ hl hc
      cases c with
      | dic ws => simp only [hc] at e; cases e; exact ⟨a, rfl, .inl q⟩
      | rod ws => simp only [hc] at e; cases e; exact ⟨a, rfl, q⟩
      | _ => simp only [hc] at e; cases e
  | dic h1 h2 h3 => cases e; exact ⟨_, rfl, h1⟩
  | _ => cases e
/-! ### len -/
def lenG (v : Val) (st : Sto) : Option Val := match seqOf v st with
  | some vs => some (.int vs.length)
  | none => match v with
    | .str x => if x.length ≤ sizeLine then some (.int x.length) else none
    | v => (dictOf v st).map fun kvs => .int kvs.length
theorem len_ok {X : Cx} : CallD X (.builtin "len") (lift1 lenG) := call1 lift1_of fun pins s σ H x u Q hd μ st v r I ru o r1 g q => by
  unfold lenG at g
  cases hs : seqOf v st with
  | some vs =>
    rw [hs] at g
    cases g
    obtain ⟨a, xs, rfl, h1, h2⟩ := seqOf_at o r1 hs
    refine call_len_seq pins s σ H _ _ Q I (.cons ru .nil) ⟨a, xs, rfl, h1, ?_⟩
    rw [← h2.len]
    exact q μ H _ Ext.refl o (.int _)
  | none =>
    rw [hs] at g
    dsimp only at g
    split at g
    · split at g
      · rename_i x hz
        cases g
        cases r1
        exact call_len_str pins s σ H _ _ Q I (.cons ru .nil) ⟨_, rfl, hz, q μ H _ Ext.refl o (.int _)⟩
      · cases g
    · cases hdd : dictOf v st with
      | none => rw [hdd] at g; cases g
      | some kvs =>
        rw [hdd] at g
        cases g
        obtain ⟨a, rfl, h1⟩ := dictOf_at o r1 hdd
        cases ru
        exact d_len I h1 fun t s' I' => ⟨.int kvs.length, H, I', ⟨t, rfl⟩, q μ H _ Ext.refl o (.int _)⟩
/-! ### isinstance -/
inductive Ty where
  | non | bl | int | str | tup | lst | dic
  deriving DecidableEq
def Ty.name : Ty → String
  | .non => "NoneType" | .bl => "bool" | .int => "int" | .str => "str" | .tup => "tuple" | .lst => "list" | .dic => "dict"
def tyOf (v : Val) (st : Sto) : Option Ty := match v with
  | .non => some .non
  | .bl _ => some .bl
  | .int _ => some .int
  | .str _ => some .str
  | .tup _ => some .tup
  | .tpl _ => some .tup
  | .tpk _ => some .tup
  | .lst _ => some .lst
  | .rol _ => some .lst
  | .dic _ => some .dic
  | .ref l => match st[l]? with
    | some (.lst _) => some .lst
    | some (.dic _) => some .dic
    | _ => none
  | _ => none
def isTy (n T : Ty) : Bool := decide (n = T) || (decide (n = .bl) && decide (T = .int))
theorem kit_all (n T : Ty) : kitB n.name T.name = some (isTy n T) := by
  cases n <;> cases T <;> decide +kernel
theorem tyOf_at {K : PySem.W.Frag} {mg : Str → Option Value} {hd : List Addr} {μ : List Addr} {H : Hp} {st : Sto} (o : StoOk K mg hd μ st H) {v : Val} {x : V} {n : Ty} (r : Rep K mg hd μ H v x) (e : tyOf v st = some n) : TyX K H x (.type n.name) := by
  cases r with
  | non => cases e; exact .base .non
  | bl b => cases e; exact .base (.bl b)
  | int b => cases e; exact .base (.int b)
  | str b => cases e; exact .base (.str b)
  | tup h1 h2 =>
    cases e
    rcases h1 with (h1 | ⟨q, h1⟩) | ⟨q, its, k, h1, h2, _⟩
    · exact .base (.tup h1)
    · exact .fTuple h1
    · exact .kTuple h1 h2
  | tpl h1 h2 =>
    cases e
    obtain ⟨q, h1, _⟩ := h1
    exact .fTuple h1
  | tpk h1 h2 h0 h3 => cases e; exact .base (.tup h1)
  | lst h1 h2 h0 h3 => cases e; exact .base (.lst h1)
  | rol h1 h2 =>
    cases e
    rcases h1 with ⟨q, h1⟩ | ⟨q, its, k, h1, h2, _⟩
    · exact .base (.frz h1)
    · exact .kList h1 h2
  | dic h1 h2 h3 =>
    cases e
    rcases h1 with h1 | ⟨q, h1⟩
    · exact .base (.dK h1)
    · exact .fDict h1
  | dit h1 h2 h3 => cases e
  | fn h1 => cases e
  | @ref l a hl =>
    unfold tyOf at e
    cases hc : st[l]? with
    | none => simp only [hc] at e; cases e
    | some c =>
      have q := o.cell l a _ hl hc
      cases c with
      | lst ws =>
        simp only [hc] at e
        cases e
        obtain ⟨xs, h1, _⟩ := q
        exact .base (.lst h1)
      | dic ws => simp only [hc] at e; cases e; exact .base (.dK q)
      | _ => simp only [hc] at e; cases e
def mIsi (T : Ty) (m : ME) : ME := fun ρ st => (m ρ st).bind fun v st1 => match tyOf v st1 with
  | some n => .ok (.bl (isTy n T)) st1
  | none => .stuck
theorem d_isi {X : Cx} {W : WX} {x c : Str} {p p2 pos : Pos} {e : Expr} {m : ME} (T : Ty) (hg : Gl X x) (hm : X.mg x = none) (hv : bootBuiltins x = some (.builtin "isinstance")) (hg2 : Gl X c) (hm2 : X.mg c = none) (hv2 : bootBuiltins c = some (.type T.name)) (ha : PE X e (TD X.K X.mg W m))
    (hn : x ≠ "__name__" := by decide) (hdb : (x == ("__debug__" : Str)) = false := by decide) (hn2 : c ≠ "__name__" := by decide) (hdb2 : (c == ("__debug__" : Str)) = false := by decide)
    (he : starEach [e, .Name c p2] X.env = (false, eval e X.env) :: starEach [.Name c p2] X.env := by rfl) (hpl : (backTo pos (starEach [.Name c p2] X.env)).any (·.1) = false := by rfl) (he2 : starEach [.Name c p2] X.env = (false, eval (.Name c p2) X.env) :: starEach [] X.env := by rfl) :
    PE X (.Call (.Name x p) [e, .Name c p2] [] pos) (TD X.K X.mg W (mIsi T m)) :=
  PE.imp (pe_callB call_isi hg hm hv (pa_cons ha (pa_cons (pe_bltn (v := .ty T.name) hg2 hm2 hv2 rfl hn2 hdb2) pa_nil he2) he) hn hdb he hpl) fun σ H Q ⟨hd, μ, ρ, st, S, G⟩ => ⟨hd, μ, ρ, st, S, Good.imp (Good.bind G) (fun μ1 st1 H1 v e1 o1 G1 y ry => by
    cases ht : tyOf v st1 with
    | none => rw [ht] at G1; exact G1.elim
    | some n =>
      rw [ht] at G1
      exact ⟨y, _, _, _, _, rfl, .ty _, tyOf_at o1 ry ht, kit_ty (kit_all n T), G1.here o1 _ (.bl _)⟩) fun _ _ h => h⟩
/-! ### all, any -/
def boolsOf : List Val → Option (List Bool)
  | [] => some []
  | .bl b :: vs => (boolsOf vs).map (b :: ·)
  | _ => none
theorem boolsOf_eq : ∀ {vs : List Val} {bs : List Bool}, boolsOf vs = some bs → vs = bs.map Val.bl
  | [], _, h => by cases h; rfl
  | .bl b :: vs, bs, h => by
    simp only [boolsOf] at h
    cases e : boolsOf vs with
    | none => rw [e] at h; cases h
    | some cs => rw [e] at h; cases h; rw [boolsOf_eq e]; rfl
  | .non :: _, _, h => by cases h
  | .int _ :: _, _, h => by cases h
  | .str _ :: _, _, h => by cases h
  | .tup _ :: _, _, h => by cases h
  | .lst _ :: _, _, h => by cases h
  | .rol _ :: _, _, h => by cases h
  | .dic _ :: _, _, h => by cases h
  | .dit _ :: _, _, h => by cases h
  | .ref _ :: _, _, h => by cases h
  | .fn _ :: _, _, h => by cases h
theorem boolsOf_map : ∀ bs : List Bool, boolsOf (bs.map Val.bl) = some bs
  | [] => rfl
  | b :: bs => by
    show (boolsOf (bs.map Val.bl)).map (b :: ·) = _
    rw [boolsOf_map bs]
    rfl
def intsOf : List Val → Option (List Int)
  | [] => some []
  | .int b :: vs => (intsOf vs).map (b :: ·)
  | _ => none
theorem intsOf_eq : ∀ {vs : List Val} {bs : List Int}, intsOf vs = some bs → vs = bs.map Val.int
  | [], _, h => by cases h; rfl
  | .int b :: vs, bs, h => by
    simp only [intsOf] at h
    cases e : intsOf vs with
    | none => rw [e] at h; cases h
    | some cs => rw [e] at h; cases h; rw [intsOf_eq e]; rfl
  | .non :: _, _, h => by cases h
  | .bl _ :: _, _, h => by cases h
  | .str _ :: _, _, h => by cases h
  | .tup _ :: _, _, h => by cases h
  | .lst _ :: _, _, h => by cases h
  | .rol _ :: _, _, h => by cases h
  | .dic _ :: _, _, h => by cases h
  | .dit _ :: _, _, h => by cases h
  | .ref _ :: _, _, h => by cases h
  | .fn _ :: _, _, h => by cases h
@[simp] theorem intsOf_map : ∀ bs : List Int, intsOf (bs.map Val.int) = some bs
  | [] => rfl
  | b :: bs => by
    show (intsOf (bs.map Val.int)).map (b :: ·) = _
    rw [intsOf_map bs]
    rfl
/-- a list's items, any that may be read as a list -/
def readL (v : Val) (st : Sto) : Option (List Val) := match v with
  | .lst vs => some vs
  | .rol vs => some vs
  | .ref l => lstAt st l
  | _ => none
theorem readL_at {K : PySem.W.Frag} {mg : Str → Option Value} {hd : List Addr} {μ : List Addr} {H : Hp} {st : Sto} (o : StoOk K mg hd μ st H) {v : Val} {x : V} {vs : List Val} (r : Rep K mg hd μ H v x) (e : readL v st = some vs) :
    ∃ a xs, x = .ref a ∧ SqL K H a xs ∧ RepL K mg hd μ H vs xs := by
  cases r with
  | @ref l a hl =>
    obtain ⟨a', xs, h1, h2, h3⟩ := listOf_at o (.ref hl) (show listOf (.ref l) st = some vs from e)
    exact ⟨a', xs, h1, SqL.of h2, h3⟩
  | lst h1 h2 h0 h3 => cases e; exact ⟨_, _, rfl, SqL.of h1, h3⟩
  | rol h1 h2 => cases e; exact ⟨_, _, rfl, h1.sq, h2⟩
  | _ => cases e
def allG (v : Val) (st : Sto) : Option Val := ((readL v st).bind boolsOf).map fun bs => .bl (bs.all id)
def anyG (v : Val) (st : Sto) : Option Val := ((readL v st).bind boolsOf).map fun bs => .bl (bs.any id)
theorem all_ok {X : Cx} (hc : X.calm = true) : CallD X (.builtin "all") (lift1 allG) := call1 lift1_of fun pins s σ H x u Q hd μ st v r I ru o r1 g q => by
  unfold allG at g
  cases hs : readL v st with
  | none => rw [hs] at g; cases g
  | some vs =>
    rw [hs] at g
    simp only [Option.bind] at g
    cases hb : boolsOf vs with
    | none => rw [hb] at g; cases g
    | some bs =>
      rw [hb] at g
      cases g
      obtain ⟨a, xs, rfl, h1, h2⟩ := readL_at o r1 hs
      rw [boolsOf_eq hb] at h2
      rw [h2.bls] at h1
      exact cr_all hc pins s σ H _ _ Q I (.cons ru .nil) ⟨a, bs, rfl, h1, q μ H _ Ext.refl o (.bl _)⟩
theorem any_ok {X : Cx} (hc : X.calm = true) : CallD X (.builtin "any") (lift1 anyG) := call1 lift1_of fun pins s σ H x u Q hd μ st v r I ru o r1 g q => by
  unfold anyG at g
  cases hs : readL v st with
  | none => rw [hs] at g; cases g
  | some vs =>
    rw [hs] at g
    simp only [Option.bind] at g
    cases hb : boolsOf vs with
    | none => rw [hb] at g; cases g
    | some bs =>
      rw [hb] at g
      cases g
      obtain ⟨a, xs, rfl, h1, h2⟩ := readL_at o r1 hs
      rw [boolsOf_eq hb] at h2
      rw [h2.bls] at h1
      exact cr_any hc pins s σ H _ _ Q I (.cons ru .nil) ⟨a, bs, rfl, h1, q μ H _ Ext.refl o (.bl _)⟩
/-! ### sum -/
def sumG (v : Val) (st : Sto) : Option Val := ((seqOf v st).bind intsOf).map fun bs => .int bs.sum
theorem tup_sum {prog : Program} {w : World} {A : Around} {E : Value → Shared → Prop} {s : Shared} {t : Addr} {vs : List Value} {ns : List Int} {Q : Value → Shared → Prop} (hh : A.handled = none) (hl : s.heap.IsTuple t vs.toArray) (hi : IntsAre vs ns)
    (h : ∀ h' tk t', (∀ b o, s.heap.get? b = some o → h'.get? b = some o) → Q (.int ns.sum t') { s with heap := h', toks := tk }) : wpAny (model prog w) A (call (.builtin "sum") [.ref t]) Q E s := by
  obtain ⟨xs, hx⟩ := hi.allInts.items
  have hn : numsOf (intItems xs).toList = ns := by rw [← hx]; exact hi.numsOf
  rw [nums_intItems] at hn
  rw [hx] at hl
  refine PySem.W.ktm_sumG hh hl fun h' tk t' hk => ?_
  have := h h' tk t' hk
  rw [preSum_eq, List.take_of_length_le (by simp), hn]; exact this
theorem sum_ok {X : Cx} (hc : X.calm = true) : CallD X (.builtin "sum") (lift1 sumG) := call1 lift1_of fun pins s σ H x u Q hd μ st v r I ru o r1 g q => by
  unfold sumG at g
  cases hs : seqOf v st with
  | none => rw [hs] at g; cases g
  | some vs =>
    rw [hs] at g
    simp only [Option.bind] at g
    cases hb : intsOf vs with
    | none => rw [hb] at g; cases g
    | some bs =>
      rw [hb] at g
      cases g
      obtain ⟨a, xs, rfl, h1, h2⟩ := seqOf_at o r1 hs
      rw [intsOf_eq hb] at h2
      rw [h2.ints] at h1
      rcases h1 with h1 | h1
      · exact cr_sum hc pins s σ H _ _ Q I (.cons ru .nil) ⟨a, bs, rfl, h1, q μ H _ Ext.refl o (.int _)⟩
      · obtain ⟨its, rv, hl, _⟩ := I.tuple h1
        cases ru
        exact tup_sum (I.ok.hd hc) hl rv.ints fun h' tk t' hk => ⟨.int _, H, I.kept hk, ⟨_, rfl⟩, q μ H _ Ext.refl o (.int _)⟩
end DL

namespace DL
open PySem PySem.W PySem.Calls PyProof.Rows
/-- a list's or a tuple's items, collected: what stood stands, the heap is no smaller -/
theorem collect_sz {P : Program} {w : World} {B : Around} {R : Value → Shared → Prop} {z : Shared} {C : List Value → Shared → Prop} (a : Addr) {T : String} {ob : Obj} {is : Array Value} {n : Nat} (hT : T = "list" ∨ T = "tuple")
    (h1 : z.heap.get? a = some ob) (h2 : ob.cls = .type T) (h3 : ob.data = .seq is n) (small : is.size ≤ sizeLine)
    (h : ∀ g, (∀ b q, z.heap.get? b = some q → g.get? b = some q) → z.heap.objs.size ≤ g.objs.size → C is.toList { z with heap := g }) : wpAny (model P w) B (collect (.ref a)) C R z := by
  -- the new list, then filled
  let g1 : Heap := z.heap.push { cls := .type "list", data := .seq ([] : List Value).toArray }
  let g2 : Heap := g1.update z.heap.objs.size (Obj.mapSeq (· ++ is))
  have n1 : g1.get? z.heap.objs.size = some { cls := .type "list", data := .seq #[] 0 } := Heap.get?_push_size _ rfl
  have n2 := Heap.get?_update_self (Obj.mapSeq (· ++ is)) n1 rfl
  have k2 : ∀ b q, z.heap.get? b = some q → g2.get? b = some q := fun b q hb => (Heap.get?_update_other _ _ (Nat.ne_of_gt (Heap.lt_size hb))).trans (Heap.get?_push_of_some _ hb)
  have z2 : z.heap.objs.size ≤ g2.objs.size := by
    show z.heap.objs.size ≤ (g1.update z.heap.objs.size (Obj.mapSeq (· ++ is))).objs.size
    rw [Heap.size_update]
    show z.heap.objs.size ≤ (z.heap.push _).objs.size
    rw [size_push']
    omega
  have rest : wpAny (model P w) B (match Value.ref z.heap.objs.size with
      | Value.ref p => do
        match (← load p).data with
          | Data.seq xs _ => pure xs.toList
          | _ => unsupported "internal:collect"
      | _ => unsupported "internal:collect") C R { z with heap := g2 } := by
    refine wpAny_bind (m := load z.heap.objs.size) (wpAny_load n2 (wpAny_pure ?_))
    have e0 : ((#[] : Array Value) ++ is).toList = is.toList := by simp
    show C ((#[] : Array Value) ++ is).toList _
    rw [e0]
    exact h _ k2 z2
  unfold collect
  refine wpAny_bind (wpAny_runValue (codeAny_builtin F.entry_proto_collect ?_))
  rw [Around.under_plainId F.plain_proto_collect _]
  refine wpAny_bind (m := newList []) (wpAny_newObj_type (wpAny_pure ⟨plainId_quiet F.plain_list_iadd _, codeAny_builtin F.entry_list_iadd ?_⟩))
  rw [Around.under_plainId F.plain_list_iadd _]
  refine wpAny_mono (wpAny_extend_seq (hsz := small) (A := B) (R := fun r s' => r = .ok (.ret (.ref z.heap.objs.size)) ∧ s' = { z with heap := g2 }) (s := { z with heap := g1 })
    _ a _ 0 hT n1 (Heap.get?_push_of_some _ h1) h2 h3 ⟨rfl, rfl⟩) (fun fin s' hf => ?_) fun e s' hf => nomatch hf.1
  cases fin with
  | done f =>
    obtain ⟨e1, rfl⟩ := hf
    cases e1
    exact rest
  | again c' =>
    refine ⟨hf.1, codeAny_mono hf.2 fun r t hr => ?_⟩
    obtain ⟨rfl, rfl⟩ := hr
    exact rest
section
variable {prog : Program} {w : World} {A : Around} {E : Value → Shared → Prop} {s : Shared} {β : Type} {vs : List Value} {bs : List β} {enc : β → PyData} {R : Value → β → Prop}
/-- sorted(x), x anything that is collected -/
theorem sorted_gen {v : Value} {Q : Value → Shared → Prop}
    (hcol : ∀ (A' : Around) (E' : Value → Shared → Prop) (Q' : List Value → Shared → Prop), A'.handled = A.handled → (∀ h' t', (∀ b o, s.heap.get? b = some o → h'.get? b = some o) → s.heap.objs.size ≤ h'.objs.size → Q' vs { s with heap := h', toks := t' }) → wpAny (model prog w) A' (collect v) Q' E' s)
    (e : EachIs R vs bs) (er : EachIs (fun v b => ∃ as, Reads s.heap v (enc b) as) vs bs) (hal : AllAlike (bs.map enc)) (hk : Sortable (bs.map enc)) (hL : bs.length ≤ sizeLine)
    (hu : ∀ b, b ∈ bs → A.units + 2 + (enc b).depth < cLine)
    (h : ∀ p out h' t', s.heap.objs.size ≤ p → (∀ b o, s.heap.get? b = some o → h'.get? b = some o) → (∃ n, h'.get? p = some { cls := .type "list", data := .seq out.toArray n }) → out.length = bs.length → EachIs R out (bs.mergeSort (dataLe false enc)) → Q (.ref p) { s with heap := h', toks := t' })
    (hh : A.in1.handled = A.handled := by rfl) :
    wpAny (model prog w) A (call (.builtin "sorted") [v]) Q E s := by
  have hLv : vs.length ≤ sizeLine := by rw [e.length]; exact hL
  refine call_function_entry_kw kind_sorted plain_sorted entry_sorted (args_sorted1 _) ?_
  unfold Builtin.«sorted»
  refine wpAny_bind (m := checkCount "sorted" 1 1 _) (wpAny_pure ?_)
  refine wpAny_bind (hcol _ _ _ hh fun h1 t1 k1 z1 => ?_)
  refine wpAny_bind (wpAny_newList ?_ hLv)
  have ho : (h1.push (seqObj "list" vs.toArray 0)).get? h1.objs.size = some (seqObj "list" vs.toArray 0) := Heap.get?_push_size _ rfl
  have hold : ∀ b o, s.heap.get? b = some o → b ≠ h1.objs.size := fun b o q => Nat.ne_of_lt (Heap.lt_size (k1 b o q))
  refine wpAny_bind (wpAny_holding (wpAny_call_entry_kw slot_list_sort ⟨_, ho, rfl⟩ entry_list_sort ?body (args_list_sort _)))
  case body =>
    have er' : EachIs (fun v b => ∃ as, Reads (sortingHeap (h1.push (seqObj "list" vs.toArray 0)) h1.objs.size vs) v (enc b) as) vs bs := er.mono fun _ _ ⟨as, r⟩ => ⟨as, PyProof.Rows.Reads.keeps (fun b o q => sortingHeap_old (hold b o q) (Heap.get?_push_of_some _ (k1 b o q))) r⟩
    refine list_sort_vals (s := { s with heap := h1.push (seqObj "list" vs.toArray 0), toks := t1 }) ho (SortsAt.data (s := { s with heap := sortingHeap (h1.push (seqObj "list" vs.toArray 0)) h1.objs.size vs, toks := t1 }) (each_map (R := fun v d => ∃ as, Reads (sortingHeap (h1.push (seqObj "list" vs.toArray 0)) h1.objs.size vs) v d as) enc er') hal hk (bound_map hu)) hLv ?_
    refine ⟨_, rfl, wpAny_pure ⟨_, rfl, ?_⟩⟩
    refine h _ _ _ _ z1 ?_ (sortedHeap_at ho) (by rw [sortVals_length false rfl]; exact e.length) (sortVals_data false e er' hal)
    · intro b o q
      rw [sortedHeap_old (hold b o q) (Nat.lt_of_lt_of_le (Heap.lt_size (k1 b o q)) (by rw [size_push']; exact Nat.le_succ _))]
      exact Heap.get?_push_of_some _ (k1 b o q)
end
end DL
namespace DL
open PySem PySem.Spec PyProof.Rows L2
def Val.enc (v : Val) : PyData := v.data.getD .none
theorem datas_map : ∀ {vs : List Val} {ds : List PyData}, Val.datas vs = some ds → ds = vs.map Val.enc ∧ ∀ v ∈ vs, v.data = some v.enc
  | [], _, h => by cases h; exact ⟨rfl, fun _ h => nomatch h⟩
  | v :: vs, _, h => by
    simp only [Val.datas] at h
    cases hq : Val.data v with
    | none => rw [hq] at h; cases h
    | some d =>
      cases hr : Val.datas vs with
      | none => rw [hq, hr] at h; cases h
      | some ds =>
        rw [hq, hr] at h
        cases h
        obtain ⟨e, k⟩ := datas_map hr
        have he : v.enc = d := by unfold Val.enc; rw [hq]; rfl
        refine ⟨by rw [List.map_cons, he, e], fun u hu => ?_⟩
        rcases List.mem_cons.mp hu with rfl | hu
        · rw [hq, he]
        · exact k u hu
def sortV (vs : List Val) : List Val := vs.mergeSort (PySem.W.dataLe false Val.enc)
def SortOk (vs : List Val) : Prop := ∃ ds, Val.datas vs = some ds ∧ PySem.W.AllAlike ds ∧ PySem.W.Sortable ds ∧ ∀ d ∈ ds, d.depth ≤ 60
open Classical in
noncomputable def sortG (v : Val) (st : Sto) : Option Val := match seqOf v st with
  | some vs => if SortOk vs then some (.lst (sortV vs)) else none
  | none => none
section
variable {K : PySem.W.Frag} {mg : Str → Option Value} {hd : List Addr} {μ : List Addr} {H : Hp}
/-- what a value stands for -/
def Stands (K : PySem.W.Frag) (mg : Str → Option Value) (hd : List Addr) (μ : List Addr) (H : Hp) (u : Value) (v : Val) : Prop := ∃ x, Rep K mg hd μ H v x ∧ RelV x u
theorem stands_of : ∀ {vs : List Val} {xs : List V} {us : List Value}, RepL K mg hd μ H vs xs → Vals xs us → PySem.W.EachIs (Stands K mg hd μ H) us vs
  | _, _, _, .nil, .nil => .nil
  | _, _, _, .cons h1 h2, .cons r1 r2 => .cons ⟨_, h1, r1⟩ (stands_of h2 r2)
theorem of_stands : ∀ {vs : List Val} {us : List Value}, PySem.W.EachIs (Stands K mg hd μ H) us vs → ∃ xs, RepL K mg hd μ H vs xs ∧ Vals xs us
  | _, _, .nil => ⟨[], .nil, .nil⟩
  | _, _, .cons ⟨x, h1, r1⟩ h2 => by
    obtain ⟨xs, h3, r3⟩ := of_stands h2
    exact ⟨x :: xs, .cons h1 h3, .cons r1 r3⟩
theorem reads_of {X : Cx} {pins : List (Addr × Obj)} {s : Shared} {σ : St} (I : Inv X pins σ H s) : ∀ {vs : List Val} {us : List Value}, PySem.W.EachIs (Stands X.K mg hd μ H) us vs → (∀ v ∈ vs, v.data = some v.enc) → PySem.W.EachIs (fun u v => ∃ as, Reads s.heap u (Val.enc v) as) us vs
  | _, _, .nil, _ => .nil
  | _, _, .cons ⟨x, h1, r1⟩ h2, k => .cons (Dp.reads I _ x _ (Rep.dp _ _ _ h1 (k _ List.mem_cons_self)) r1) (reads_of I h2 fun v hv => k v (List.mem_cons_of_mem _ hv))
end
/-- sorted of anything that is collected into values that stand for vs -/
theorem sorted_run {X : Cx} {pins : List (Addr × Obj)} {s : Shared} {σ : St} {H : Hp} {hd μ : List Addr} {st : Sto} {u : Value} {us : List Value} {xs : List V} {vs : List Val} {Q : VK} {k : Nat} (hr : Room k X.A) (I : Inv X pins σ H s) (o : StoOk X.K X.mg hd μ st H) (r : RepL X.K X.mg hd μ H vs xs) (rv : Vals xs us) (hz : us.length ≤ sizeLine)
    (hcol : ∀ (A' : Around) (E' : Value → Shared → Prop) (Q' : List Value → Shared → Prop), A'.handled = X.A.handled → (∀ h' t', (∀ b o, s.heap.get? b = some o → h'.get? b = some o) → s.heap.objs.size ≤ h'.objs.size → Q' us { s with heap := h', toks := t' }) → wpAny (model X.prog X.w) A' (collect u) Q' E' s)
    (ok : SortOk vs) (q : ∀ H' z, Ext μ H μ H' → StoOk X.K X.mg hd μ st H' → Rep X.K X.mg hd μ H' (.lst (sortV vs)) z → Q z H') : wpAny (model X.prog X.w) X.A (call (.builtin "sorted") [u]) (EP X pins σ Q) X.xe s := by
  obtain ⟨ds, h1, h2, h3, h4⟩ := ok
  obtain ⟨rfl, h5⟩ := datas_map h1
  have es := stands_of r rv
  refine sorted_gen (enc := Val.enc) hcol es (reads_of I es h5) h2 h3 (by rw [← es.length]; exact hz) (fun b hb => ?_) fun p out h' t' hp hk ⟨n, ho⟩ hl he => ?_
  · have := h4 _ (List.mem_map_of_mem hb)
    have := hr.un
    omega
  · obtain ⟨ys, h6, r6⟩ := of_stands he
    have hlen : ys.length ≤ sizeLine := by rw [r6.length, hl, ← es.length]; exact hz
    have hpn : H p = none := I.hok.fresh hp
    have I2 : Inv X pins σ (upd H p (.lst ys)) { s with heap := h', toks := t' } := I.laid hk hp ⟨hlen, out, n, r6, ho⟩
    exact ⟨.ref p, _, I2, rfl, q _ _ (Ext.obj hpn) (o.obj hpn) (new_lst o h6 hpn)⟩
theorem sorted_ok {X : Cx} {k : Nat} (hr : Room k X.A) : CallD X (.builtin "sorted") (lift1 sortG) := call1 lift1_of fun pins s σ H x u Q hd μ st v r I ru o r1 g q => by
  unfold sortG at g
  cases hs : seqOf v st with
  | none => rw [hs] at g; cases g
  | some vs =>
    rw [hs] at g
    dsimp only at g
    by_cases hk : SortOk vs
    · rw [if_pos hk] at g
      cases g
      obtain ⟨a, xs, rfl, h1, h2⟩ := seqOf_at o r1 hs
      cases ru
      rcases h1 with h1 | h1
      · obtain ⟨its, rv, hl, hz⟩ := I.list h1
        have hl := hl.isList
        obtain ⟨ob, ho, hc, n, hd'⟩ := hl
        exact sorted_run hr I o h2 rv (by rw [← rv.length]; exact hz) (fun A' E' Q' _ hq => collect_sz a (.inl rfl) ho hc hd' (by rw [List.size_toArray, ← rv.length]; exact hz) fun h' k z => hq h' s.toks k z) hk fun H' z e o' rz => q μ H' z e o' rz
      · obtain ⟨its, rv, hl, hz⟩ := I.tuple h1
        obtain ⟨ob, ho, hc, n, hd'⟩ := hl
        exact sorted_run hr I o h2 rv (by rw [← rv.length]; exact hz) (fun A' E' Q' _ hq => collect_sz a (.inr rfl) ho hc hd' (by rw [List.size_toArray, ← rv.length]; exact hz) fun h' k z => hq h' s.toks k z) hk fun H' z e o' rz => q μ H' z e o' rz
    · rw [if_neg hk] at g
      cases g
/-! ### list(x), tuple(x) -/
def listG (v : Val) (st : Sto) : Option Val := (seqOf v st).map .lst
theorem list_ok {X : Cx} : CallD X (.type "list") (lift1 listG) := call1 lift1_of fun pins s σ H x u Q hd μ st v r I ru o r1 g q => by
  unfold listG at g
  cases hs : seqOf v st with
  | none => rw [hs] at g; cases g
  | some vs =>
    rw [hs] at g
    cases g
    obtain ⟨a, xs, rfl, h1, h2⟩ := seqOf_at o r1 hs
    exact call_list_of pins s σ H _ _ Q I (.cons ru .nil) ⟨a, xs, rfl, h1, fun p hp => q μ _ _ (Ext.obj hp) (o.obj hp) (new_lst o h2 hp)⟩
def tupG (v : Val) (st : Sto) : Option Val := (seqOf v st).map .tup
theorem tuple_ok {X : Cx} : CallD X (.type "tuple") (lift1 tupG) := call1 lift1_of fun pins s σ H x u Q hd μ st v r I ru o r1 g q => by
  unfold tupG at g
  cases hs : seqOf v st with
  | none => rw [hs] at g; cases g
  | some vs =>
    rw [hs] at g
    cases g
    obtain ⟨a, xs, rfl, h1, h2⟩ := seqOf_at o r1 hs
    refine call_tuple_of pins s σ H _ _ Q I (.cons ru .nil) ⟨a, xs, rfl, ?_⟩
    rcases h1 with h1 | h1
    · exact .inl ⟨h1, fun p hp => q μ _ _ (Ext.obj hp) (o.obj hp) (.tup (SqT.of upd_same) (RepL.ext (Ext.obj hp) _ _ h2))⟩
    · exact .inr ⟨h1, q μ H _ Ext.refl o (.tup h1 h2)⟩
/-! ### abs, int -/
def absG (v : Val) (_ : Sto) : Option Val := match v with
  | .int i => some (.int (if i < 0 then -i else i))
  | _ => none
theorem abs_ok {X : Cx} : CallD X (.builtin "abs") (lift1 absG) := call1 lift1_of fun pins s σ H x u Q hd μ st v r I ru o r1 g q => by
  unfold absG at g
  split at g
  · cases g
    cases r1
    exact call_abs pins s σ H _ _ Q I (.cons ru .nil) ⟨_, rfl, q μ H _ Ext.refl o (.int _)⟩
  · cases g
def intG (v : Val) (_ : Sto) : Option Val := match v with
  | .int i => some (.int i)
  | .bl b => some (.int (if b then 1 else 0))
  | _ => none
theorem int_ok {X : Cx} : CallD X (.type "int") (lift1 intG) := call1 lift1_of fun pins s σ H x u Q hd μ st v r I ru o r1 g q => by
  unfold intG at g
  split at g
  · cases g
    cases r1
    exact call_int1 pins s σ H _ _ Q I (.cons ru .nil) (.inl ⟨_, rfl, q μ H _ Ext.refl o (.int _)⟩)
  · cases g
    cases r1
    exact call_int1 pins s σ H _ _ Q I (.cons ru .nil) (.inr ⟨_, rfl, q μ H _ Ext.refl o (.int _)⟩)
  · cases g
/-! ### x[i] of lists, tuples, texts -/
def ixF (v w : Val) (st : Sto) : Res Val := match w with
  | .int i => (match seqOf v st with
    | some vs => match atI vs i with
      | some r => .ok r st
      | none => .stuck
    | none => .stuck)
  | _ => .stuck
theorem ixF_ne : NoExc2 ixF := fun v w st c st' h => by
  unfold ixF at h
  split at h
  · split at h
    · split at h <;> cases h
    · cases h
  · cases h
theorem RepL.atI {K : PySem.W.Frag} {mg : Str → Option Value} {hd : List Addr} {μ : List Addr} {H : Hp} {vs : List Val} {xs : List V} (r : RepL K mg hd μ H vs xs) {i : Int} {v : Val} (h : L2.atI vs i = some v) : ∃ x, L2.atI xs i = some x ∧ Rep K mg hd μ H v x := by
  unfold L2.atI at h ⊢
  rw [← r.len]
  cases e : ixN vs.length i with
  | none => rw [e] at h; cases h
  | some j =>
    rw [e] at h
    exact r.get h
theorem d_ix {X : Cx} {W : WX} {a b : Expr} {pos : Pos} {ma mb : ME} (ha : PE X a (TD X.K X.mg W ma)) (hb : PE X b (TD X.K X.mg W mb)) (hs : PlainIx b := by exact fun _ _ => rfl) : PE X (.Subscript a b pos) (TD X.K X.mg W (mOp ixF ma mb)) :=
  PE.imp (pe_ix (IxR.or ix_list ix_tup) ha hb hs) fun σ H Q h => by
    have := tOp_of ixF_ne h
    obtain ⟨hd, μ, ρ, st, S, G⟩ := this
    refine ⟨hd, μ, ρ, st, S, Good.imp G (fun μ1 st1 H1 v e1 o1 k x rx => ?_) fun _ _ h => h⟩
    obtain ⟨hd2, μ2, ρ2, st2, S2, G2⟩ := k x rx
    refine ⟨hd2, μ2, ρ2, st2, S2, Good.imp G2 (fun μ3 st3 H3 w e3 o3 k3 y ry => ?_) fun _ _ h => h⟩
    obtain ⟨hd4, μ4, st4, v4, w4, o4, r1, r2, G4⟩ := k3 y ry
    unfold ixF at G4
    split at G4
    · rename_i i
      cases hq : seqOf v4 st4 with
      | none => rw [hq] at G4; exact G4.elim
      | some vs =>
        rw [hq] at G4
        dsimp only at G4
        cases hi : L2.atI vs i with
        | none => rw [hi] at G4; exact G4.elim
        | some r =>
          rw [hi] at G4
          obtain ⟨p, xs, rfl, h1, h2⟩ := seqOf_at o4 r1 hq
          obtain ⟨z, h3, h4⟩ := h2.atI hi
          cases r2
          rcases h1 with h1 | h1
          · exact .inl ⟨p, xs, i, z, rfl, rfl, h1, h3, G4.here o4 _ h4⟩
          · exact .inr ⟨p, xs, i, z, rfl, rfl, h1, h3, G4.here o4 _ h4⟩
    · exact G4.elim
end DL

namespace DL
open PySem PySem.Spec PyProof.Rows L2
/-! ### slices -/
abbrev MO := Rho → Sto → Res (Option Int)
def mNo : MO := fun _ st => .ok none st
def mPart (m : ME) : MO := fun ρ st => (m ρ st).bind fun v st1 => match v with
  | .int i => .ok (some i) st1
  | _ => .stuck
def TDO (K : PySem.W.Frag) (mg : Str → Option Value) (W : WX) (m : MO) : TO := fun σ H Q => ∃ hd μ ρ st, Sim K mg hd μ ρ st σ H ∧ Good K mg hd μ H (m ρ st) (fun _ _ H' o => Q o H') (gW mg W σ)
def cutL (vs : List Val) (lo hi : Option Int) : List Val := (vs.drop (HT.sIx vs.length 0 lo)).take (HT.sIx vs.length vs.length hi - HT.sIx vs.length 0 lo)
def sliceG (v : Val) (lo hi : Option Int) (st : Sto) : Option Val := match v with
  | .tup vs => some (.tup (cutL vs lo hi))
  | .str x => if x.length ≤ sizeLine then some (.str (cutS x lo hi)) else none
  | v => (readL v st).map fun vs => .lst (cutL vs lo hi)
def mSlice (m : ME) (lo hi : MO) : ME := fun ρ st => (m ρ st).bind fun v st1 => (lo ρ st1).bind fun l st2 => (hi ρ st2).bind fun h st3 => match sliceG v l h st3 with
  | some r => .ok r st3
  | none => .stuck
section
variable {X : Cx} {W : WX} {e : Expr} {lo hi : Option Expr} {m : ME} {ml mh : MO} {pos p2 : Pos}
theorem PO.imp {e : Option Expr} {t t' : TO} (h : PO X e t) (i : ∀ σ H Q, t' σ H Q → t σ H Q) : PO X e t' := ⟨fun pins s σ H Q I q => h.run pins s σ H Q I (i _ _ _ q)⟩
theorem do_none : PO X none (TDO X.K X.mg W mNo) := PO.imp po_none fun σ H Q ⟨hd, μ, ρ, st, S, G⟩ => G.here S.sto
theorem do_some (h : PE X e (TD X.K X.mg W m)) : PO X (some e) (TDO X.K X.mg W (mPart m)) := PO.imp (po_some h) fun σ H Q ⟨hd, μ, ρ, st, S, G⟩ => ⟨hd, μ, ρ, st, S, Good.imp (Good.bind G) (fun μ1 st1 H1 v e1 o1 G1 x rx => by
    cases v with
    | int i => cases rx; exact ⟨i, rfl, G1.here o1⟩
    | _ => exact G1.elim) fun _ _ h => h⟩
theorem RepL.cut {K : PySem.W.Frag} {mg : Str → Option Value} {hd : List Addr} {μ : List Addr} {H : Hp} {vs : List Val} {xs : List V} (r : RepL K mg hd μ H vs xs) (lo hi : Option Int) : RepL K mg hd μ H (cutL vs lo hi) (cutV xs lo hi) := by
  unfold cutL cutV
  rw [← r.len]
  exact (r.drop _).take _
theorem cut_whole {α : Type} (vs : List α) {lo hi : Option Int} (h : HT.sIx vs.length 0 lo = 0 ∧ HT.sIx vs.length vs.length hi = vs.length) : (vs.drop (HT.sIx vs.length 0 lo)).take (HT.sIx vs.length vs.length hi - HT.sIx vs.length 0 lo) = vs := by
  rw [h.1, h.2, List.drop_zero, Nat.sub_zero, List.take_length]
theorem d_slice (he : PE X e (TD X.K X.mg W m)) (hl : PO X lo (TDO X.K X.mg W ml)) (hu : PO X hi (TDO X.K X.mg W mh)) : PE X (.Subscript e (.Slice lo hi none p2) pos) (TD X.K X.mg W (mSlice m ml mh)) :=
  PE.imp (pe_slice (SlR.or sl_tupA (SlR.or sl_list sl_str)) he hl hu) fun σ H Q ⟨hd, μ, ρ, st, S, G⟩ => ⟨hd, μ, ρ, st, S, Good.imp (Good.bind G) (fun μ1 st1 H1 v e1 o1 G1 x rx =>
    ⟨hd, μ1, ρ, st1, S.ext e1 o1, Good.imp (Good.bind G1) (fun μ2 st2 H2 l e2 o2 G2 => ⟨hd, μ2, ρ, st2, (S.ext e1 o1).ext e2 o2, Good.imp (Good.bind G2) (fun μ3 st3 H3 h e3 o3 G3 => by
      have rx := Rep.ext (e2.trans e3) _ _ rx
      cases hr : sliceG v l h st3 with
      | none => rw [hr] at G3; exact G3.elim
      | some r =>
        rw [hr] at G3
        dsimp only at G3
        have other : ∀ ws, readL v st3 = some ws → r = .lst (cutL ws l h) → (rSlA X.K x l h H3 Q ∨ rSlL X.K x l h H3 Q ∨ rSlS x l h H3 Q) := fun ws hq er => by
          subst er
          obtain ⟨a, xs, rfl, h1, h2⟩ := readL_at o3 rx hq
          exact .inr (.inl ⟨a, xs, rfl, h1, fun p hp => G3 μ3 _ (Ext.obj hp) (o3.obj hp) _ (new_lst o3 (h2.cut l h) hp)⟩)
        cases v with
        | tup vs =>
          cases hr
          cases rx with
          | tup h1 h2 =>
            refine .inl ⟨_, _, rfl, h1, fun hw => ?_, fun _ p hp => ?_⟩
            · have e0 : cutL vs l h = vs := by
                unfold cutL
                rw [← h2.len] at hw
                exact cut_whole vs hw
              rw [e0] at G3
              exact G3.here o3 _ (.tup h1 h2)
            · exact G3 μ3 _ (Ext.obj hp) (o3.obj hp) _ (.tup (SqT.of upd_same) (RepL.ext (Ext.obj hp) _ _ (h2.cut l h)))
        | str z =>
          unfold sliceG at hr
          dsimp only at hr
          split at hr
          · rename_i hz
            cases hr
            cases rx
            exact .inr (.inr ⟨_, rfl, hz, G3.here o3 _ (.str _)⟩)
          · cases hr
        | lst vs => cases hr; exact other _ rfl rfl
        | rol vs => cases hr; exact other _ rfl rfl
        | ref k =>
          unfold sliceG at hr
          cases hq : readL (.ref k) st3 with
          | none => simp only [hq] at hr; cases hr
          | some ws => simp only [hq] at hr; cases hr; exact other _ hq rfl
        | _ => cases hr) fun _ _ h => h⟩) fun _ _ h => h⟩) fun _ _ h => h⟩
end
/-! ### in, not in -/
def flatD : Val → Option V
  | .non => some .non
  | .bl b => some (.bl b)
  | .int i => some (.int i)
  | .str x => some (.str x)
  | _ => none
def flatDs : List Val → Option (List V)
  | [] => some []
  | v :: vs => match flatD v, flatDs vs with
    | some d, some ds => some (d :: ds)
    | _, _ => none
section
variable {K : PySem.W.Frag} {mg : Str → Option Value} {hd : List Addr} {μ : List Addr} {H : Hp}
theorem Rep.flat {v : Val} {x d : V} (r : Rep K mg hd μ H v x) (h : flatD v = some d) : x = d ∧ flatV d = true := by
  cases r <;> cases h <;> exact ⟨rfl, rfl⟩
theorem RepL.flatD : ∀ {vs : List Val} {xs ds : List V}, RepL K mg hd μ H vs xs → flatDs vs = some ds → xs = ds ∧ ds.all flatV = true
  | _, _, _, .nil, h => by cases h; exact ⟨rfl, rfl⟩
  | v :: vs, _, _, .cons h1 h2, h => by
    simp only [flatDs] at h
    cases hq : DL.flatD v with
    | none => rw [hq] at h; cases h
    | some d =>
      cases hr : flatDs vs with
      | none => rw [hq, hr] at h; cases h
      | some ds =>
        rw [hq, hr] at h
        cases h
        obtain ⟨rfl, f1⟩ := h1.flat hq
        obtain ⟨rfl, f2⟩ := RepL.flatD h2 hr
        exact ⟨rfl, by rw [List.all_cons, f1, f2]; rfl⟩
end
def inG (v w : Val) (st : Sto) : Option Bool := match seqOf w st, flatD v with
  | some ws, some x => (flatDs ws).map fun xs => inV x xs
  | _, _ => none
def inF (v w : Val) (st : Sto) : Res Val := match inG v w st with
  | some b => .ok (.bl b) st
  | none => .stuck
def niF (v w : Val) (st : Sto) : Res Val := match inG v w st with
  | some b => .ok (.bl (!b)) st
  | none => .stuck
theorem inF_ne : NoExc2 inF := fun v w st c st' h => by unfold inF at h; split at h <;> cases h
theorem niF_ne : NoExc2 niF := fun v w st c st' h => by unfold niF at h; split at h <;> cases h
theorem inG_at {K : PySem.W.Frag} {mg : Str → Option Value} {hd : List Addr} {μ : List Addr} {H : Hp} {st : Sto} (o : StoOk K mg hd μ st H) {v w : Val} {x y : V} {b : Bool} (r1 : Rep K mg hd μ H v x) (r2 : Rep K mg hd μ H w y) (h : inG v w st = some b) :
    ∃ p xs, y = .ref p ∧ (SqL K H p xs ∨ SqT K H p xs) ∧ flatV x = true ∧ xs.all flatV = true ∧ b = inV x xs := by
  unfold inG at h
  cases hq : seqOf w st with
  | none => rw [hq] at h; cases h
  | some ws =>
    cases hf : flatD v with
    | none => rw [hq, hf] at h; cases h
    | some d =>
      rw [hq, hf] at h
      dsimp only at h
      cases hg : flatDs ws with
      | none => rw [hg] at h; cases h
      | some ds =>
        rw [hg] at h
        cases h
        obtain ⟨a, xs, rfl, h1, h2⟩ := seqOf_at o r2 hq
        obtain ⟨rfl, f1⟩ := r1.flat hf
        obtain ⟨rfl, f2⟩ := h2.flatD hg
        exact ⟨a, xs, rfl, h1, f1, f2, rfl⟩
theorem inF_ok {X : Cx} : OpD X (compareOp .In) inF := by
  intro pins s σ H x y v u Q I rv ru ⟨hd, μ, st, v', w', o, r1, r2, G⟩
  unfold inF at G
  cases hb : inG v' w' st with
  | none => rw [hb] at G; exact G.elim
  | some b =>
    rw [hb] at G
    obtain ⟨p, xs, rfl, h1, f1, f2, rfl⟩ := inG_at o r1 r2 hb
    exact op_in_seq pins s σ H x _ v u Q I rv ru ⟨p, xs, rfl, h1, f1, f2, G.here o _ (.bl _)⟩
theorem niF_ok {X : Cx} : OpD X (compareOp .NotIn) niF := by
  intro pins s σ H x y v u Q I rv ru ⟨hd, μ, st, v', w', o, r1, r2, G⟩
  unfold niF at G
  cases hb : inG v' w' st with
  | none => rw [hb] at G; exact G.elim
  | some b =>
    rw [hb] at G
    obtain ⟨p, xs, rfl, h1, f1, f2, rfl⟩ := inG_at o r1 r2 hb
    exact op_notIn_seq pins s σ H x _ v u Q I rv ru ⟨p, xs, rfl, h1, f1, f2, G.here o _ (.bl _)⟩
/-! ### methods -/
abbrev FM := Val → List Val → Sto → Res Val
def mMeth (chk : Val → Sto → Bool) (F : FM) (mo : ME) (ms : MA) : ME := fun ρ st => (mo ρ st).bind fun v st1 => if chk v st1 = true then (ms ρ st1).bind fun vs st2 => F v vs st2 else .stuck
def NoExcM (F : FM) : Prop := ∀ v vs st c st', F v vs st ≠ .exc c st'
def rM (K : PySem.W.Frag) (mg : Str → Option Value) (F : FM) : V → List V → Hp → VK → Prop := fun x xs H Q => ∃ hd μ st v vs, StoOk K mg hd μ st H ∧ Rep K mg hd μ H v x ∧ RepL K mg hd μ H vs xs ∧
  Good K mg hd μ H (F v vs st) (fun μ' _ H' v => ∀ x, Rep K mg hd μ' H' v x → Q x H') (fun _ _ => False)
def chkL (v : Val) (st : Sto) : Bool := (readL v st).isSome
def ChkOk (T : String) (chk : Val → Sto → Bool) : Prop := ∀ (K : PySem.W.Frag) (mg : Str → Option Value) (hd μ : List Addr) (H : Hp) (st : Sto) (v : Val) (x : V), StoOk K mg hd μ st H → Rep K mg hd μ H v x → chk v st = true → tyV K T x H
theorem chkL_ok : ChkOk "list" chkL := fun K mg hd μ H st v x o r h => by
  unfold chkL at h
  cases hq : readL v st with
  | none => rw [hq] at h; cases h
  | some vs =>
    obtain ⟨a, xs, rfl, h1, _⟩ := readL_at o r hq
    exact .inl ⟨rfl, _, h1⟩
def chkS (v : Val) (_ : Sto) : Bool := match v with
  | .str _ => true
  | _ => false
theorem chkS_ok : ChkOk "str" chkS := fun K mg hd μ H st v x o r h => by
  cases r with
  | str x => exact rfl
  | _ => cases h
section
variable {X : Cx} {W : WX} {o e : Expr} {es : List Expr} {mo : ME} {ms : MA} {F : FM} {chk : Val → Sto → Bool} {name : Str} {apos cpos : Pos} {T id : String}
theorem tBM_of (hF : NoExcM F) (hk : ChkOk T chk) {σ : St} {H : Hp} {Q : VK} (h : TD X.K X.mg W (mMeth chk F mo ms) σ H Q) : tBM X.K T (rM X.K X.mg F) (TD X.K X.mg W mo) (TDA X.K X.mg W ms) σ H Q := by
  obtain ⟨hd, μ, ρ, st, S, G⟩ := h
  refine ⟨hd, μ, ρ, st, S, Good.imp (Good.bind G) (fun μ1 st1 H1 v e1 o1 G1 x rx => ?_) fun _ _ h => h⟩
  by_cases hc : chk v st1 = true
  · rw [if_pos hc] at G1
    refine ⟨hk _ _ _ _ _ _ _ _ o1 rx hc, hd, μ1, ρ, st1, S.ext e1 o1, Good.imp (Good.bind G1) (fun μ2 st2 H2 vs e2 o2 G2 xs rxs => ⟨hd, μ2, st2, v, vs, o2, Rep.ext e2 _ _ rx, rxs, ?_⟩) fun _ _ h => h⟩
    cases hr : F v vs st2 with
    | ok v st2 => rw [hr] at G2; exact G2
    | exc c st2 => exact absurd hr (hF _ _ _ _ _)
    | stuck => rw [hr] at G2; exact G2
  · rw [if_neg hc] at G1
    exact G1.elim
theorem tBM0_of (hF : NoExcM F) (hk : ChkOk T chk) {σ : St} {H : Hp} {Q : VK} (h : TD X.K X.mg W (mMeth chk F mo mNilA) σ H Q) : tBM0 X.K T (rM X.K X.mg F) (TD X.K X.mg W mo) σ H Q := by
  obtain ⟨hd, μ, ρ, st, S, G⟩ := h
  refine ⟨hd, μ, ρ, st, S, Good.imp (Good.bind G) (fun μ1 st1 H1 v e1 o1 G1 x rx => ?_) fun _ _ h => h⟩
  by_cases hc : chk v st1 = true
  · rw [if_pos hc] at G1
    refine ⟨hk _ _ _ _ _ _ _ _ o1 rx hc, hd, μ1, st1, v, [], o1, rx, .nil, ?_⟩
    have G1 : Good X.K X.mg hd μ1 H1 (F v [] st1) _ _ := G1
    cases hr : F v [] st1 with
    | ok v st2 => rw [hr] at G1; exact G1
    | exc c st2 => exact absurd hr (hF _ _ _ _ _)
    | stuck => rw [hr] at G1; exact G1
  · rw [if_neg hc] at G1
    exact G1.elim
theorem d_bm (pa : PlainAttrs T) (slot : Slot T name id) (hty : typeOf (.builtin id) = pure (.type "method_descriptor")) (hm : MtR X id (rM X.K X.mg F)) (hF : NoExcM F) (hk : ChkOk T chk) (ho : PE X o (TD X.K X.mg W mo)) (ha : PA X (e :: es) (TDA X.K X.mg W ms))
    (hbase : attributeBase o name X.env (eval o X.env) = eval o X.env := by rfl)
    (hfew : ((backTo cpos (starEach (e :: es) X.env)).all (fun x => !x.1) && (backToKw cpos (keywordEach [] X.env)).all (fun x => x.1.isSome)
      && decide ((e :: es).length + ([] : List Keyword).length + (if ([] : List Keyword).isEmpty then 0 else 1) < 30)) = true := by rfl)
    (hline : (apos.endLine == cpos.line) = true := by rfl) (hs : starEach (e :: es) X.env = (false, eval e X.env) :: starEach es X.env := by rfl) (hplain : (backTo cpos (starEach es X.env)).any (·.1) = false := by rfl) :
    PE X (.Call (.Attribute o name apos) (e :: es) [] cpos) (TD X.K X.mg W (mMeth chk F mo ms)) := PE.imp (pe_bm pa slot hty hm ho ha hbase hfew hline hs hplain) fun _ _ _ h => tBM_of hF hk h
theorem d_bm0 (pa : PlainAttrs T) (slot : Slot T name id) (hty : typeOf (.builtin id) = pure (.type "method_descriptor")) (hm : MtR X id (rM X.K X.mg F)) (hF : NoExcM F) (hk : ChkOk T chk) (ho : PE X o (TD X.K X.mg W mo))
    (hbase : attributeBase o name X.env (eval o X.env) = eval o X.env := by rfl) (hline : (apos.endLine == cpos.line) = true := by rfl) : PE X (.Call (.Attribute o name apos) [] [] cpos) (TD X.K X.mg W (mMeth chk F mo mNilA)) :=
  PE.imp (pe_bm0 pa slot hty hm ho hbase hline) fun _ _ _ h => tBM0_of hF hk h
end
def appendF : FM := fun v vs st => match v, vs with
  | .ref l, [w] => match lstAt st l with
    | some ws => if ws.length < sizeLine then .ok .non (st.set l (.lst (ws ++ [w]))) else .stuck
    | none => .stuck
  | _, _ => .stuck
theorem appendF_ne : NoExcM appendF := fun v vs st c st' h => by
  unfold appendF at h
  split at h
  · split at h
    · split at h <;> cases h
    · cases h
  · cases h
theorem lstAt_ok {K : PySem.W.Frag} {mg : Str → Option Value} {hd : List Addr} {μ : List Addr} {H : Hp} {st : Sto} (o : StoOk K mg hd μ st H) {l : Nat} {a : Addr} {ws : List Val} (hl : μ[l]? = some a) (h : lstAt st l = some ws) : ∃ xs, H a = some (.lst xs) ∧ RepL K mg hd μ H ws xs := by
  unfold lstAt at h
  cases hc : st[l]? with
  | none => rw [hc] at h; cases h
  | some c =>
    rw [hc] at h
    cases c with
    | lst vs => cases h; exact o.cell l a _ hl hc
    | _ => cases h
/-- a list's cell is rewritten -/
theorem set_lst {K : PySem.W.Frag} {mg : Str → Option Value} {hd : List Addr} {μ : List Addr} {H : Hp} {st : Sto} (o : StoOk K mg hd μ st H) {l : Nat} {a : Addr} {xs ys : List V} {vs : List Val} (hl : μ[l]? = some a) (h : H a = some (.lst xs)) (r : RepL K mg hd μ H vs ys) :
    Ext μ H μ (upd H a (.lst ys)) ∧ StoOk K mg hd μ (st.set l (.lst vs)) (upd H a (.lst ys)) := by
  have e : Ext μ H μ (upd H a (.lst ys)) := Ext.set (List.mem_of_getElem? hl) h trivial
  exact ⟨e, o.set hl h trivial ⟨ys, upd_same, RepL.ext e _ _ r⟩⟩
theorem append_ok {X : Cx} : MtR X "list.append" (rM X.K X.mg appendF) := by
  intro pins s σ H x xs v us Q I rx rxs ⟨hd, μ, st, v', vs, o, r1, r2, G⟩
  unfold appendF at G
  split at G
  · rename_i l w
    cases hq : lstAt st l with
    | none => simp only [hq] at G; exact G.elim
    | some ws =>
      simp only [hq] at G
      split at G
      · rename_i hz
        cases r1 with
        | ref hl =>
          obtain ⟨ys, h1, h2⟩ := lstAt_ok o hl hq
          cases r2 with
          | cons h3 h4 =>
            cases h4
            obtain ⟨e, o'⟩ := set_lst o hl h1 (h2.append (.cons h3 .nil))
            exact mt_append pins s σ H _ _ v us Q I rx rxs ⟨_, ys, _, rfl, rfl, h1, by rw [← h2.len]; exact hz, G μ _ e o' _ .non⟩
      · exact G.elim
  · exact G.elim
def extendF : FM := fun v vs st => match v, vs with
  | .ref l, [w] => match lstAt st l, listOf w st with
    | some ws, some us => if ws.length + us.length ≤ sizeLine then .ok .non (st.set l (.lst (ws ++ us))) else .stuck
    | _, _ => .stuck
  | _, _ => .stuck
theorem extendF_ne : NoExcM extendF := fun v vs st c st' h => by
  unfold extendF at h
  split at h
  · split at h
    · split at h <;> cases h
    · cases h
  · cases h
theorem extend_ok {X : Cx} : MtR X "list.extend" (rM X.K X.mg extendF) := by
  intro pins s σ H x xs v us Q I rx rxs ⟨hd, μ, st, v', vs, o, r1, r2, G⟩
  unfold extendF at G
  split at G
  · rename_i l w
    cases hq : lstAt st l with
    | none => simp only [hq] at G; exact G.elim
    | some ws =>
      cases hq2 : listOf w st with
      | none => simp only [hq, hq2] at G; exact G.elim
      | some zs =>
        simp only [hq, hq2] at G
        split at G
        · rename_i hz
          cases r1 with
          | ref hl =>
            obtain ⟨ys, h1, h2⟩ := lstAt_ok o hl hq
            cases r2 with
            | cons h3 h4 =>
              cases h4
              obtain ⟨b, zs', rfl, h5, h6⟩ := listOf_at o h3 hq2
              obtain ⟨e, o'⟩ := set_lst o hl h1 (h2.append h6)
              exact mt_extend pins s σ H _ _ v us Q I rx rxs ⟨_, b, ys, zs', rfl, rfl, h1, h5, by rw [← h2.len, ← h6.len]; exact hz, G μ _ e o' _ .non⟩
        · exact G.elim
  · exact G.elim
/-! ### xs[i] = v -/
def mSetIx (mo mi mv : ME) : MS := fun ρ st => withE (mv ρ st) ρ fun w st1 => withE (mo ρ st1) ρ fun v st2 => withE (mi ρ st2) ρ fun i st3 => match v, i with
  | .ref l, .int k => (match lstAt st3 l with
    | some ws => match ixN ws.length k with
      | some j => .next ρ (st3.set l (.lst (ws.set j w)))
      | none => .stuck
    | none => .stuck)
  | _, _ => .stuck
theorem ds_setix {X : Cx} {W : WX} {a b e : Expr} {pos tpos : Pos} {mo mi mv : ME} (hv : PE X e (TD X.K X.mg W mv)) (ho : PE X a (TD X.K X.mg W mo)) (hi : PE X b (TD X.K X.mg W mi))
    (ha : ∀ v, assign (.Subscript a b tpos) X.env v = (do
      let ov ← holding [v] (eval a X.env)
      let iv ← holding [v, ov] (eval b X.env)
      standAt tpos
      holding [v, ov, iv] (setItem ov iv v)
      release [v, ov, iv] []) := by intro _; rfl)
    (hs : swapsWithSole [.Subscript a b tpos] e pos.line X.env = pure false := by rfl) (hw : swappedStores [.Subscript a b tpos] e X.env = pure none := by rfl)
    (h1 : (assignEach [.Subscript a b tpos] X.env).map (·.2) = [assign (.Subscript a b tpos) X.env] := by rfl) : PS X (.Assign [.Subscript a b tpos] e pos) (TDS X.K X.mg W (mSetIx mo mi mv)) :=
  PS.imp (ps_asg hv (pg_sub ho hi set_list ha) hs hw h1) fun D σ H h => by
    obtain ⟨hd, μ, ρ, st, S, G⟩ := TDS_def.mp h
    refine ⟨hd, μ, ρ, st, S, Good.imp (withE_of S G) (fun μ1 st1 H1 w e1 o1 G1 x rx => ?_) fun _ _ h => h⟩
    have S1 := S.ext e1 o1
    refine ⟨hd, μ1, ρ, st1, S1, Good.imp (withE_of S1 G1.2) (fun μ2 st2 H2 v e2 o2 G2 y ry => ?_) fun _ _ h => h⟩
    have S2 := S1.ext e2 o2
    refine ⟨hd, μ2, ρ, st2, S2, Good.imp (withE_of S2 G2.2) (fun μ3 st3 H3 i e3 o3 G3 z rz => ?_) fun _ _ h => h⟩
    have G3 := G3.2
    have S3 := S2.ext e3 o3
    split at G3
    · rename_i l k _
      cases hq : lstAt st3 l with
      | none => simp only [hq] at G3; exact G3.elim
      | some ws =>
        simp only [hq] at G3
        cases hj : ixN ws.length k with
        | none => simp only [hj] at G3; exact G3.elim
        | some j =>
          simp only [hj] at G3
          cases (Rep.ext e3 _ _ ry) with
          | ref hl =>
            cases rz
            obtain ⟨ys, h2, h3⟩ := lstAt_ok o3 hl hq
            obtain ⟨e, o'⟩ := set_lst o3 hl h2 (RepL.set (Rep.ext (e2.trans e3) _ _ rx) j h3)
            exact ⟨_, ys, k, j, rfl, rfl, h2, by rw [← h3.len]; exact hj, G3 μ3 _ σ e (S3.ext e o')⟩
    · exact G3.elim
end DL

/-! A def that an except suite calls with its error: which error it is. -/
namespace DL
open PySem PySem.Spec PyProof.Rows L2 L2H

/-- p: the error that is handled -/
def Hot0 (A : Around) (p : Addr × Obj) : Prop := A.handled = some (.ref p.1)
structure FnP (P : Program) (w : World) (K : PySem.W.Frag) (mg : Str → Option Value) (base : Heap) (CX : CXT) (k : Nat) (f : Addr) (fd : FuncData) (ps : List Str) (sp : Addr × Obj → Sp) : Prop where
  len : ∀ p vs H Q E, sp p vs H Q E → vs.length = ps.length
  run : ∀ (A : Around) (outer : List Env) (s : Shared) (H : Hp) (args : Args) (us : List Value) (vs : List V) (Q : VK) (E : XK) (p : Addr × Obj), RoomH k A → Hot0 A p → PinOk outer H s p → Env0 P w K mg base A outer s H →
    BindsTo s fd args (ps.zip us) → Vals vs us → sp p vs H Q E → codeAny (model P w) A (.call (.ref f) args) (CR CX outer P w H s Q E) s
theorem fn_ofP {CX : CXT} {P : Program} {w : World} {K : PySem.W.Frag} {mg : Str → Option Value} {base : Heap} {k : Nat} {f : Addr} {name qual : Str} {params : Arguments} {body : List Stmt} {scope : Scope} {dV kV doc pm cdv ct oc : Value} {an od : Option Addr}
    {osl : Array (Option Value)} {N ps : List Str} {sp : Addr × Obj → Sp} (lk : K.lookup f = some ⟨oc, od, .func (PySem.W.fnOf name qual params body scope dV kV doc pm an cdv ct), osl⟩) (hcd : PySem.W.codeIn K cdv qual = true) (S : FnScope N ps scope)
    (len : ∀ p vs H Q E, sp p vs H Q E → vs.length = ps.length)
    (hbody : ∀ (A : Around) (outer : List Env) (s : Shared) (H : Hp) (vs : List V) (Q : VK) (E : XK) (p : Addr × Obj), Hot0 A p → RoomH k (A.deeper (envOfC qual scope s.heap.objs.size f cdv)) → sp p vs H Q E →
      ∃ t, PSs (cxH CX P w K mg base N qual scope f cdv A outer s H E p) body t ∧ t { nx := fun _ H' => Q .non H', rt := Q } (L2.start N vs) H) :
    FnP P w K mg base CX (k + 1) f (PySem.W.fnOf name qual params body scope dV kV doc pm an cdv ct) ps sp := ⟨len, by
  intro A outer s H args us vs Q E p room hot pin e0 hb rv hsp
  have KX : K.In s.heap := e0.mod.kin.keeps (fun b o h => (e0.bs b o h).1)
  have KL : s.heap.NoLimit := e0.mod.nolimit.keeps (fun b o h => (e0.bs b o h).1)
  refine codeAny_call_function room.depth (KX _ _ lk) rfl S.co S.gen rfl (PySem.W.codeRec_of KX hcd) (hb _ _ _ _ (wpAny_newFunctionEnv_cells S.kind (fun y hy => ?_) fun env he s1 x => ?_))
  · have := S.par y.1 (List.of_mem_zip (a := y.1) (b := y.2) hy).1
    exact this.imp id fun q => ⟨q, PySem.W.cellsFrom_some _ _ _ (.inl q)⟩
  · subst he
    refine ⟨KL.keeps x.toInCall.keep, codeAny_func ?_⟩
    obtain ⟨t, ht, hq⟩ := hbody A outer s H vs Q E p hot (room.deeper _) hsp
    have J0 := inv_startH (CX := CX) (E := E) (qual := qual) S pin e0 (len _ _ _ _ _ hsp) rv x
    refine wpAny_mono (ht.run [] s1 _ H _ J0 hq) (fun fl s' hs => ?_) (fun e s' hs => hs)
    cases fl with
    | ret u =>
      obtain ⟨v, σ', H', J, rv, q⟩ := hs
      exact ⟨v, H', J.os, J.bare, J.base, J.hok, rv, q⟩
    | next =>
      obtain ⟨σ', H', J, q⟩ := hs
      exact ⟨.non, H', J.os, J.bare, J.base, J.hok, rfl, q⟩
    | brk => exact (hs.choose_spec.choose_spec.2).elim
    | cont => exact (hs.choose_spec.choose_spec.2).elim⟩

/-! ### isinstance(e, C), e the error that is handled, in the first slot -/
structure ErrIs (K : PySem.W.Frag) (mg : Str → Option Value) (D : Addr) (c : Str) (b : Bool) : Prop where
  ex : ∃ C : Addr, mg c = some (.ref C) ∧ PySem.W.kitOne K (.ref D) (.ref C) = some b
/-- p holds an error of the class at D, and stands -/
structure IsErr (X : Cx) (p : Addr × Obj) (D : Addr) : Prop where
  pin : p ∈ X.pn
  cls : p.2.cls = .ref D
  dict : p.2.dict = none
  data : ∃ vs, p.2.data = .fields vs
def tB0 (p : Addr × Obj) (b : Bool) : TE := fun σ H Q => σ[0]? = some (some (V.ref p.1)) ∧ Q (.bl b) H
def tBs (p : Addr × Obj) (bs : List Bool) : TA := fun σ H Q => σ[0]? = some (some (V.ref p.1)) ∧ Q (bs.map V.bl) H
section
variable {X : Cx} {p : Addr × Obj} {D : Addr} {e : Expr} {es : List Expr}
theorem call_isP (C : ExcC X.K D) (E : IsErr X p D) : CallR X (.builtin "isinstance") (rIsE X.K D p.1) := by
  intro pins s σ H xs us Q I r h
  obtain ⟨c, cv, b, rfl, hcv, e, q⟩ := h
  obtain ⟨u1, u2, rfl, r1, r2⟩ := vals2 r
  obtain rfl := hcv _ r2
  obtain rfl : u1 = Value.ref p.1 := r1
  have J : PySem.W.InstAt s.heap p.1 p.2 D none := by
    have g := (I.pin p (List.mem_append_left _ E.pin)).1
    obtain ⟨vs, hv⟩ := E.data
    have h1 := E.cls
    have h2 := E.dict
    obtain ⟨a, oc, od, oda, osl⟩ := p
    dsimp only at *
    subst h1 h2 hv
    exact ⟨g, rfl, rfl, trivial⟩
  exact PySem.W.kia_one (PySem.W.handS_kitx_exc C.hg C.hk C.hs C.hd C.ha C.hn C.ht C.hm) I.kIn J e (fun z => nomatch z) fun tk => ⟨.bl b, H, I.kept (t' := tk) fun _ _ z => z, rfl, q⟩
theorem pe_isP {x c y : Str} {b : Bool} {p1 p2 p3 pos : Pos} (C : ExcC X.K D) (E : IsErr X p D) (Y : ErrIs X.K X.mg D c b) (hm : X.mg x = none) (hN : X.N[0]? = some y) (hv2 : Vis X.env.scope y) (hv : bootBuiltins x = some (.builtin "isinstance")) (hg : Gl X x) (hg2 : Gl X c)
    (hn : x ≠ "__name__" := by decide) (hdb : (x == ("__debug__" : Str)) = false := by decide) (hdc : (c == ("__debug__" : Str)) = false := by decide) (hdy : (y == ("__debug__" : Str)) = false := by decide) (hcy : (y == ("__classdict__" : Str)) = false := by decide)
    (he : starEach [.Name y p2, .Name c p3] X.env = (false, eval (.Name y p2) X.env) :: starEach [.Name c p3] X.env := by rfl) (hpl : (backTo pos (starEach [.Name c p3] X.env)).any (·.1) = false := by rfl) (he2 : starEach [.Name c p3] X.env = (false, eval (.Name c p3) X.env) :: starEach [] X.env := by rfl) :
    PE X (.Call (.Name x p1) [.Name y p2, .Name c p3] [] pos) (tB0 p b) := by
  obtain ⟨C', g, k⟩ := Y.ex
  exact PE.imp (pe_callB (call_isP C E) hg hm hv (pa_cons (pe_var hN hv2 hdy hcy) (pa_cons (pe_glob (v := .ref C') hg2 g rfl hdc) pa_nil he2) he) hn hdb he hpl) fun σ H Q ⟨h0, q⟩ => ⟨_, h0, _, _, _, rfl, fun u r => r, k, q⟩
theorem pe_isPT {x c y : Str} {T : String} {b : Bool} {p1 p2 p3 pos : Pos} (C : ExcC X.K D) (E : IsErr X p D) (Y : PySem.W.kitOne X.K (.ref D) (.type T) = some b) (hm : X.mg x = none) (hN : X.N[0]? = some y) (hv2 : Vis X.env.scope y) (hv : bootBuiltins x = some (.builtin "isinstance")) (hg : Gl X x) (hg2 : Gl X c) (hm2 : X.mg c = none) (hvc : bootBuiltins c = some (.type T))
    (hn : x ≠ "__name__" := by decide) (hnc : c ≠ "__name__" := by decide) (hdb : (x == ("__debug__" : Str)) = false := by decide) (hdc : (c == ("__debug__" : Str)) = false := by decide) (hdy : (y == ("__debug__" : Str)) = false := by decide) (hcy : (y == ("__classdict__" : Str)) = false := by decide)
    (he : starEach [.Name y p2, .Name c p3] X.env = (false, eval (.Name y p2) X.env) :: starEach [.Name c p3] X.env := by rfl) (hpl : (backTo pos (starEach [.Name c p3] X.env)).any (·.1) = false := by rfl) (he2 : starEach [.Name c p3] X.env = (false, eval (.Name c p3) X.env) :: starEach [] X.env := by rfl) :
    PE X (.Call (.Name x p1) [.Name y p2, .Name c p3] [] pos) (tB0 p b) :=
  PE.imp (pe_callB (call_isP C E) hg hm hv (pa_cons (pe_var hN hv2 hdy hcy) (pa_cons (pe_bltn (v := .ty T) hg2 hm2 hvc rfl hnc hdc) pa_nil he2) he) hn hdb he hpl) fun σ H Q ⟨h0, q⟩ => ⟨_, h0, _, _, _, rfl, fun u r => r, Y, q⟩
theorem pas_nil : PA X [] (tBs p []) := PA.imp pa_nil fun σ H Q ⟨_, q⟩ => q
theorem pas_cons {b : Bool} {bs : List Bool} (h1 : PE X e (tB0 p b)) (h2 : PA X es (tBs p bs)) (hs : starEach (e :: es) X.env = (false, eval e X.env) :: starEach es X.env := by rfl) : PA X (e :: es) (tBs p (b :: bs)) :=
  PA.imp (pa_cons h1 h2 hs) fun σ H Q ⟨h0, q⟩ => ⟨h0, h0, q⟩
/-- l.count(True), l a list of truth values -/
theorem mt_bcount (hu : X.A.units + 64 < cLine) : MtR X "list.count" (fun x xs H Q => ∃ (a : Addr) (bs : List Bool), x = V.ref a ∧ xs = [V.bl true] ∧ SqL X.K H a (bs.map V.bl) ∧ Q (.int (bs.count true : Nat)) H) := by
  intro pins s σ H x xs v us Q I rx rxs h
  obtain ⟨a, bs, rfl, rfl, hs, q⟩ := h
  cases rx
  obtain ⟨u, rfl, ru⟩ := rxs.one
  cases ru
  obtain ⟨its, rv, hl, hlen⟩ := I.list hs
  have e1 := rv.bls
  subst e1
  have rs : ∀ bs : List Bool, ∃ as, ReadsAll s.heap (bs.map Value.bool) (bs.map PyData.bool) as := by
    intro bs
    induction bs with
    | nil => exact ⟨_, .nil⟩
    | cons b bs ih =>
      obtain ⟨as, r⟩ := ih
      exact ⟨_, .cons (.bool b) r⟩
  have pl : ∀ bs : List Bool, PyData.plainAll (bs.map PyData.bool) = true := by
    intro bs
    induction bs with
    | nil => rfl
    | cons b bs ih => rw [List.map_cons, PyData.plainAll, ih]; rfl
  have cnt : ∀ bs : List Bool, (bs.map PyData.bool).countP (fun y => PyData.eqv y (.bool true)) = bs.count true := by
    intro bs
    rw [List.countP_map]
    unfold List.count
    exact List.countP_congr fun b _ => by cases b <;> decide
  obtain ⟨as, r⟩ := rs bs
  refine PySem.SeqAt.count_list_data (x := .bool true) (d := .bool true) (as := as) hl.isList r (.bool true) (pl bs) rfl (by show X.A.units + 1 + min _ 0 < cLine; omega) ?_
  rw [cnt]
  exact ⟨.int (bs.count true : Nat), H, I.tok _, ⟨_, rfl⟩, q⟩
theorem mt_bindex : MtR X "list.index" (fun x xs H Q => ∃ (a : Addr) (bs : List Bool) (j : Nat), x = V.ref a ∧ xs = [V.bl true] ∧ SqL X.K H a (bs.map V.bl) ∧ bs[j]? = some true ∧ (∀ m, m < j → bs[m]? ≠ some true) ∧ Q (.int (j : Nat)) H) := by
  intro pins s σ H x xs v us Q I rx rxs h
  obtain ⟨a, bs, j, rfl, rfl, hs, hj, hm, q⟩ := h
  have fl : ∀ bs : List Bool, (bs.map V.bl).all flatV = true := fun bs => by
    induction bs with
    | nil => rfl
    | cons b bs ih => rw [List.map_cons, List.all_cons, ih]; rfl
  refine mt_index pins s σ H _ _ v us Q I rx rxs ⟨a, bs.map V.bl, .bl true, j, .bl true, rfl, rfl, hs, rfl, fl bs, by rw [List.getElem?_map, hj]; rfl, rfl, fun m z' hlt hz => ?_, q⟩
  rw [List.getElem?_map] at hz
  cases e : bs[m]? with
  | none => rw [e] at hz; cases hz
  | some b =>
    rw [e] at hz
    cases hz
    cases b with
    | true => exact absurd e (hm m hlt)
    | false => rfl
end
def spW (D : Addr) (j : Int) (p : Addr × Obj) : Sp := fun vs H Q _ => vs = [.ref p.1] ∧ p.2.cls = .ref D ∧ p.2.dict = none ∧ (∃ fvs, p.2.data = .fields fvs) ∧
  ∀ a H', (∀ b o, H b = some o → H' b = some o) → H a = none → H' a = some (.tup [.str "refused", .int j]) → Q (.ref a) H'
theorem spW_len {D : Addr} {j : Int} (p : Addr × Obj) (vs : List V) (H : Hp) (Q : VK) (E : XK) (h : spW D j p vs H Q E) : vs.length = (["_law_e"] : List Str).length := by
  obtain ⟨rfl, _⟩ := h
  rfl
/-- the body's reading: three lists of truth values, joined, of which the j-th alone is true -/
theorem which_reads {X : Cx} {p : Addr × Obj} {j : Nat} {b1 b2 b3 : List Bool} {Q : VK} {H : Hp} (hc : (b1 ++ b2 ++ b3).count true = 1) (hj : (b1 ++ b2 ++ b3)[j]? = some true) (hm : ∀ m, m < j → (b1 ++ b2 ++ b3)[m]? ≠ some true) (hz : (b1 ++ b2 ++ b3).length ≤ 100)
    (q : ∀ a H', (∀ b o, H b = some o → H' b = some o) → H a = none → H' a = some (.tup [.str "refused", .int (j : Nat)]) → Q (.ref a) H') :
    tSeq (tAsg (tLst (tBs p b1)) (gName 1)) (tSeq (tDrop (tBM X.K "list" rExtend (tVar 1) (tCons (tLst (tBs p b2)) tNil))) (tSeq (tDrop (tBM X.K "list" rExtend (tVar 1) (tCons (tLst (tBs p b3)) tNil)))
      (tSeq (tIfS (tOr (tTest (tOp rNe (tBM X.K "list" (fun x xs H Q => ∃ (a : Addr) (bs : List Bool), x = V.ref a ∧ xs = [V.bl true] ∧ SqL X.K H a (bs.map V.bl) ∧ Q (.int (bs.count true : Nat)) H) (tVar 1) (tCons (tC (.bl true)) tNil)) (tC (.int 1)))) (tNot (tB (tB0 p true)))) tNever tNext)
        (tRet (tTup (tCons (tC (.str "refused")) (tCons (tBM X.K "list" (fun x xs H Q => ∃ (a : Addr) (bs : List Bool) (j : Nat), x = V.ref a ∧ xs = [V.bl true] ∧ SqL X.K H a (bs.map V.bl) ∧ bs[j]? = some true ∧ (∀ m, m < j → bs[m]? ≠ some true) ∧ Q (.int (j : Nat)) H) (tVar 1) (tCons (tC (.bl true)) tNil)) tNil)))))))
      { nx := fun _ H' => Q .non H', rt := Q } [some (.ref p.1), none] H := by
  have z100 : (100 : Nat) ≤ sizeLine := by decide
  simp only [List.length_append] at hz
  have e3 : (b1 ++ b2 ++ b3).map V.bl = b1.map V.bl ++ b2.map V.bl ++ b3.map V.bl := by rw [List.map_append, List.map_append]
  refine ⟨rfl, by rw [List.length_map]; omega, fun l hl => ?_⟩
  -- the second list
  refine ⟨.ref l, rfl, .inl ⟨rfl, _, SqL.of upd_same⟩, rfl, by rw [List.length_map]; omega, fun m hm2 => ?_⟩
  have n1 : l ≠ m := ne_of_none upd_same hm2
  have hmH : H m = none := by rw [upd_ne n1.symm] at hm2; exact hm2
  refine ⟨l, m, _, _, rfl, rfl, by rw [upd_ne n1, upd_same], upd_same, by simp only [List.length_map]; omega, ?_⟩
  -- the third
  refine ⟨.ref l, rfl, .inl ⟨rfl, _, SqL.of upd_same⟩, rfl, by rw [List.length_map]; omega, fun k hk => ?_⟩
  have n2 : l ≠ k := ne_of_none upd_same hk
  have n3 : m ≠ k := ne_of_none (o := .lst (b2.map V.bl)) (by rw [upd_ne n1.symm, upd_same]) hk
  refine ⟨l, k, _, _, rfl, rfl, by rw [upd_ne n2, upd_same], upd_same, by simp only [List.length_map, List.length_append]; omega, ?_⟩
  have hkH : H k = none := by rw [upd_ne n2.symm, upd_ne n3.symm, upd_ne n2.symm] at hk; exact hk
  refine ⟨.ref l, rfl, .inl ⟨rfl, _, SqL.of upd_same⟩, l, b1 ++ b2 ++ b3, rfl, rfl, SqL.of (by rw [e3]; exact upd_same), rfl, _, rfl, ?_⟩
  rw [hc]
  refine iteNS (by decide) ?_
  refine ⟨rfl, true, rfl, ?_⟩
  refine ⟨.ref l, rfl, .inl ⟨rfl, _, SqL.of upd_same⟩, l, b1 ++ b2 ++ b3, j, rfl, rfl, SqL.of (by rw [e3]; exact upd_same), hj, hm, by show 2 ≤ sizeLine; omega, fun t ht => ?_⟩
  have n4 : l ≠ t := ne_of_none upd_same ht
  have n5 : k ≠ t := ne_of_none (o := .lst (b3.map V.bl)) (by rw [upd_ne n2.symm, upd_same]) ht
  have n6 : m ≠ t := ne_of_none (o := .lst (b2.map V.bl)) (by rw [upd_ne n1.symm, upd_ne n3, upd_ne n1.symm, upd_same]) ht
  have keep : ∀ b o, H b = some o → b ≠ l ∧ b ≠ m ∧ b ≠ k := fun b o h => ⟨ne_of_none h hl, ne_of_none h hmH, ne_of_none h hkH⟩
  have htH : H t = none := by rw [upd_ne n4.symm, upd_ne n5.symm, upd_ne n4.symm, upd_ne n6.symm, upd_ne n4.symm] at ht; exact ht
  refine q t _ (fun b o h => ?_) htH upd_same
  obtain ⟨k1, k2, k3⟩ := keep b o h
  rw [upd_ne (ne_of_none h htH), upd_ne k1, upd_ne k3, upd_ne k1, upd_ne k2, upd_ne k1]
  exact h
end DL

namespace DL
open PySem PySem.Spec PyProof.Rows L2 L2H
/-- the def named x tells of an error of the class at D that it is the j-th -/
structure Whi (P : Program) (w : World) (K : PySem.W.Frag) (mg : Str → Option Value) (base : Heap) (k : Nat) (x : Str) (D : Addr) (j : Nat) : Prop where
  ex : ∃ (f : Addr) (fd : FuncData), FnP P w K mg base CX0 k f fd ["_law_e"] (spW D (j : Nat)) ∧ mg x = some (.ref f) ∧ PySem.W.keepIn K (.ref f) = true ∧ Binds K fd ["_law_e"] []
section
variable {X : Cx} {k i : Nat} {x y : Str} {D a : Addr} {j : Nat} {oe : Obj} {pn : List (Addr × Obj)} {q p2 pos : Pos}
theorem pe_callP (F : Whi X.prog X.w X.K X.mg X.base k x D j) (room : Room k X.A) (hN : X.N[i]? = some y) (hv : Vis X.env.scope y) (hg : Gl X x) (hz : Zc (.ref D) none oe) (hf : ∃ vs, oe.data = .fields vs)
    (hdb : (x == ("__debug__" : Str)) = false := by decide) (hdy : (y == ("__debug__" : Str)) = false := by decide) (hcy : (y == ("__classdict__" : Str)) = false := by decide)
    (he : starEach [.Name y p2] X.env = (false, eval (.Name y p2) X.env) :: starEach [] X.env := by rfl) (hpl : (backTo pos (starEach [] X.env)).any (·.1) = false := by rfl) :
    PE (X.suite a ((a, oe) :: pn)) (.Call (.Name x q) [.Name y p2] [] pos) (fun σ H Q => σ[i]? = some (some (V.ref a)) ∧
      ∀ a' H', (∀ b o, H b = some o → H' b = some o) → H a' = none → H' a' = some (.tup [.str "refused", .int (j : Nat)]) → Q (.ref a') H') := by
  obtain ⟨f, fd, G, hm, kp, bd⟩ := F.ex
  refine ⟨fun pins s σ H Q I h => ?_⟩
  have args : PA (X.suite a ((a, oe) :: pn)) [.Name y p2] (tCons (tVar i) tNil) := pa_cons (pe_var hN hv hdy hcy) pa_nil he
  refine wpAny_Call_Name_kw (ld_glob I hg hm (PySem.W.callWith_K (h₀ := X.base) I.ok.mod.kin kp (thn (args.run pos pins s σ H (fun vs H1 => vs = [V.ref a] ∧ H1 = H) I ⟨_, h.1, rfl, rfl⟩) ?_) he hpl) hdb)
  intro us s1 hh
  obtain ⟨vs, H1, I1, r1, rfl, rfl⟩ := hh
  refine ⟨I1.kIn, ?_⟩
  have hp := I1.pin (a, oe) (List.mem_append_left _ List.mem_cons_self)
  have pin : PinOk X.stack H1 s1 (a, oe) := ⟨hp.1, hp.2.1, fun hm => (List.mem_cons.mp (I1.stkSub a hm)).elim hp.2.2.1 hp.2.2.2.1, hp.2.2.2.2⟩
  have bs := bd s1 us I1.kIn (by rw [List.append_nil, ← r1.length]; rfl)
  rw [List.append_nil] at bs
  refine wpAny_call (codeAny_mono (G.run (X.A.mark (some (.ref a))) X.stack s1 H1 ⟨us, []⟩ us [.ref a] Q E0 (a, oe) ⟨room.dp, room.un⟩ rfl pin I1.env0 bs r1 ⟨rfl, hz.1, hz.2, hf, h.2⟩) fun r s' hq => ?_)
  cases r with
  | error e => exact hq.elim
  | ok fl =>
    cases fl with
    | ret u => exact I1.after hq
    | _ => exact hq.elim
end
def mTry (i : Nat) (idx : Str → Option Nat) (body : MS) : MS := fun ρ st => match body ρ st with
  | .exc c ρ' st' => if i < ρ'.length then (match idx c with
    | some j => .ret (.tup [.str "refused", .int (j : Nat)]) st'
    | none => .stuck) else .stuck
  | r => r
section
variable {X : Cx} {W : WX} {k i : Nat} {x n z : Str} {c : Addr} {body : List Stmt} {mb : MS} {np pos pos' p1 p2 p3 p4 : Pos} {idx : Str → Option Nat}
theorem ds_try (hs : X.stack = X.env :: X.outer) (hf : X.env.frame = some X.env.locals) (hN : X.N.Nodup) (hi : X.N[i]? = some n) (hln : X.env.kindOf n = some .local) (hc : Names X x (.ref c)) (tk : Takes X W) (room : Room k X.A)
    (hw : ∀ (cc : Str) (j : Nat), idx cc = some j → ∃ D : Addr, X.mg cc = some (.ref D) ∧ PySem.W.exmOne X.K (.ref D) (.ref c) = some true ∧ Whi X.prog X.w X.K X.mg X.base k z D j)
    (hb : ∀ (W' : WX) (pn : List (Addr × Obj)) (xe : Value → Shared → Prop), Takes (X.tr pn xe) W' → PassesOwn (model X.prog X.w) X.A X.env xe → PSs (X.tr pn xe) body (TDS X.K X.mg W' mb))
    (hv : Vis X.env.scope n) (hg : Gl X z) (hdb : (z == ("__debug__" : Str)) = false := by decide) (hdy : (n == ("__debug__" : Str)) = false := by decide) (hcy : (n == ("__classdict__" : Str)) = false := by decide)
    (he : starEach [.Name n p3] X.env = (false, eval (.Name n p3) X.env) :: starEach [] X.env := by rfl) (hpl : (backTo p4 (starEach [] X.env)).any (·.1) = false := by rfl) :
    PS X (.Try body [.ExceptHandler (some (.Name x np)) (some n) [.Return (some (.Call (.Name z p2) [.Name n p3] [] p4)) p1] pos'] [] [] pos) (TDS X.K X.mg W (mTry i idx mb)) := by
  refine PS.imp (ps_try_as (i := i) (Wout := W) (tb := fun W' => TDS X.K X.mg W' mb)
    (ts := fun a cls d D' σ H => ∃ (D : Addr) (j : Nat), cls = .ref D ∧ d = none ∧ Whi X.prog X.w X.K X.mg X.base k z D j ∧ σ[i]? = some (some (V.ref a)) ∧
      ∀ a' H', (∀ b o, H b = some o → H' b = some o) → H a' = none → H' a' = some (.tup [.str "refused", .int (j : Nat)]) → D'.rt (.ref a') H')
    hs hf hN hi hln hc tk hb fun a oe cls d pn hz hfd => ?_) fun D σ H h => ?_
  · refine ⟨fun pins s σ H D' I hh => ?_⟩
    obtain ⟨Dd, j, rfl, rfl, F, h0, h1⟩ := hh
    exact (pss_one (ps_ret (pe_callP F room hi hv hg hz hfd hdb hdy hcy he hpl))).run pins s σ H D' I ⟨h0, h1⟩
  · obtain ⟨hd, μ, ρ, st, S, G⟩ := TDS_def.mp h
    refine TDS_def.mpr ⟨hd, μ, ρ, st, S, ?_⟩
    unfold mTry at G
    cases hr : mb ρ st with
    | next => rw [hr] at G; exact G
    | ret => rw [hr] at G; exact G
    | brk => rw [hr] at G; exact G
    | cnt => rw [hr] at G; exact G
    | stuck => rw [hr] at G; exact G
    | exc cc ρ' st' =>
      rw [hr] at G
      dsimp only at G
      by_cases hl0 : i < ρ'.length
      case neg => rw [if_neg hl0] at G; exact G.elim
      rw [if_pos hl0] at G
      cases hx : idx cc with
      | none => rw [hx] at G; exact G.elim
      | some j =>
        rw [hx] at G
        obtain ⟨Dd, m1, m2, F⟩ := hw cc j hx
        intro μ' H' σ' e' S'
        refine ⟨Dd, m1, true, m2, fun _ a na => ⟨Dd, j, rfl, rfl, F, ?_, fun a' H2 hk hn ht => ?_⟩, fun z => nomatch z⟩
        · have hl : i < σ'.length := by
            rw [← S'.len]
            exact hl0
          exact List.getElem?_set_self hl
        · have e2 : Ext μ' H' μ' H2 := ⟨⟨[], by simp⟩, fun a o h _ => hk a o h, fun a xs h => by
            rcases h with h | ⟨q, h⟩
            · exact .inl (hk _ _ h)
            · exact .inr ⟨q, hk _ _ h⟩, fun a o u h => hk _ _ h, fun a h n => absurd h n⟩
          have o2 : StoOk X.K X.mg hd μ' st' H2 := ⟨S'.sto.len, S'.sto.nd, fun l b cl h1 h2 => (S'.sto.cell l b cl h1 h2).ext e2 fun o ho => hk _ _ ho, fun b hb => by
            obtain ⟨q1, o, q2⟩ := S'.sto.hid b hb
            exact ⟨q1, o, hk _ _ q2⟩⟩
          exact G μ' H2 _ (e'.trans e2) o2 (.tup (SqT.of ht) (.cons (.str _) (.cons (.int _) .nil)))
end
end DL

namespace DL
open PySem PySem.Spec PyProof.Rows L2
/-! ### a call of a value that is one of several defs -/
def mCallV (tbl : List (Str × FV)) (mf : ME) (ms : MA) : ME := fun ρ st => (mf ρ st).bind fun v st1 => match v with
  | .fn x => (match tbl.lookup x with
    | some F => (ms ρ st1).bind fun vs st2 => F vs st2
    | none => .stuck)
  | _ => .stuck
theorem lookup_mem {α : Type} : ∀ {l : List (Str × α)} {x : Str} {y : α}, l.lookup x = some y → (x, y) ∈ l
  | [], _, _, h => by cases h
  | (k, v) :: r, x, y, h => by
    rw [List.lookup_cons] at h
    split at h
    · rename_i e
      cases h
      rw [beq_iff_eq] at e
      subst e
      exact List.mem_cons_self
    · exact List.mem_cons_of_mem _ (lookup_mem h)
section
variable {X : Cx} {W : WX} {k : Nat} {tbl : List (Str × FV)} {f : Expr} {pos : Pos} {e : Expr} {es : List Expr} {mf : ME} {ms : MA}
theorem d_callv (cs : ∀ x F, (x, F) ∈ tbl → Cal X.prog X.w X.K X.mg X.base k x F) (tk : Takes X W) (hr : Room k X.A) (hf : PE X f (TD X.K X.mg W mf)) (ha : PA X (e :: es) (TDA X.K X.mg W ms))
    (hev : eval (.Call f (e :: es) [] pos) X.env = (do callWith pos (← eval f X.env) [] (backTo pos (starEach (e :: es) X.env)) (backToKw pos (keywordEach [] X.env))) := by rfl)
    (he : starEach (e :: es) X.env = (false, eval e X.env) :: starEach es X.env := by rfl) (hpl : (backTo pos (starEach es X.env)).any (·.1) = false := by rfl) :
    PE X (.Call f (e :: es) [] pos) (TD X.K X.mg W (mCallV tbl mf ms)) := by
  refine ⟨fun pins s σ H Q I h => ?_⟩
  obtain ⟨hd, μ, ρ, st, S, G⟩ := h
  rw [hev]
  have run := hf.run pins s σ H (fun v H1 => ∃ (x : Str) (F : FV) (g : Addr), (x, F) ∈ tbl ∧ X.mg x = some (.ref g) ∧ v = .ref g ∧ TDA X.K X.mg W ms σ H1 (fun vs H2 => spD X.K X.mg F vs H2 Q (WE W σ))) I
    ⟨hd, μ, ρ, st, S, Good.imp (Good.bind G) (fun μ1 st1 H1 v e1 o1 G1 x rx => by
      cases rx with
      | @fn y g hg =>
        dsimp only at G1
        cases hl : tbl.lookup y with
        | none => simp only [hl] at G1; exact G1.elim
        | some F =>
          simp only [hl] at G1
          exact ⟨y, F, g, lookup_mem hl, hg, rfl, hd, μ1, ρ, st1, S.ext e1 o1, Good.imp (Good.bind G1) (fun μ2 st2 H2 vs e2 o2 G2 xs rxs => ⟨hd, μ2, st2, vs, o2, rxs, G2⟩) fun _ _ h => h⟩
      | _ => exact G1.elim) fun _ _ h => h⟩
  refine wpAny_bind (thn run fun u s1 ⟨v, H1, I1, rv, x, F, g, hmem, hg, hv, q⟩ => ?_)
  subst hv
  obtain rfl : u = Value.ref g := rv
  obtain ⟨f', fd, ps, Gf, hm, kp, b⟩ := (cs x F hmem).ex
  rw [hg] at hm
  cases hm
  refine PySem.W.callWith_K (h₀ := X.base) I1.ok.mod.kin kp (thn (ha.run pos pins s1 σ H1 _ I1 q) fun us s2 ⟨vs, H2, I2, r2, q2⟩ => ⟨I2.kIn, ?_⟩) he hpl
  exact run_fnS Gf hr b (passAt tk σ) I2 r2 q2
end
/-! ### trimming: what a def leaves behind is forgotten -/
mutual
inductive ClV (n : Nat) : Val → Prop
  | non : ClV n .non
  | bl (b : Bool) : ClV n (.bl b)
  | int (i : Int) : ClV n (.int i)
  | str (x : Str) : ClV n (.str x)
  | tup {vs : List Val} : ClL n vs → ClV n (.tup vs)
  | tpl {vs : List Val} : ClL n vs → ClV n (.tpl vs)
  | tpk {vs : List Val} : ClL n vs → ClV n (.tpk vs)
  | lst {vs : List Val} : ClL n vs → ClV n (.lst vs)
  | rol {vs : List Val} : ClL n vs → ClV n (.rol vs)
  | dic (kvs : List (Key × V)) : ClV n (.dic kvs)
  | dit (kvs : List (List Key × V)) : ClV n (.dit kvs)
  | ref {l : Nat} : l < n → ClV n (.ref l)
  | fn (x : Str) : ClV n (.fn x)
inductive ClL (n : Nat) : List Val → Prop
  | nil : ClL n []
  | cons {v : Val} {vs : List Val} : ClV n v → ClL n vs → ClL n (v :: vs)
end
def ClC (n : Nat) : Cell → Prop
  | .lst vs => ClL n vs
  | .dic _ => True
  | .dit _ => True
  | .rod _ => True
  | .ins _ fs => ∀ f v, (f, v) ∈ fs → ClV n v
section
variable {K : PySem.W.Frag} {mg : Str → Option Value} {hd : List Addr} {μ : List Addr} {H : Hp} {n : Nat}
mutual
theorem Rep.cl : ∀ (v : Val) (x : V), Rep K mg hd μ H v x → ClV μ.length v
  | .non, _, h => .non
  | .bl b, _, h => .bl b
  | .int i, _, h => .int i
  | .str i, _, h => .str i
  | .tup vs, _, h => by cases h with | tup h1 h2 => exact .tup (RepL.cl vs _ h2)
  | .tpl vs, _, h => by cases h with | tpl h1 h2 => exact .tpl (RepL.cl vs _ h2)
  | .tpk vs, _, h => by cases h with | tpk h1 h2 h3 h4 => exact .tpk (RepL.cl vs _ h4)
  | .lst vs, _, h => by cases h with | lst h1 h2 h3 h4 => exact .lst (RepL.cl vs _ h4)
  | .rol vs, _, h => by cases h with | rol h1 h2 => exact .rol (RepL.cl vs _ h2)
  | .dic kvs, _, h => .dic kvs
  | .dit kvs, _, h => .dit kvs
  | .ref l, _, h => by cases h with | ref h1 => exact .ref (List.getElem?_eq_some_iff.mp h1).1
  | .fn x, _, h => .fn x
theorem RepL.cl : ∀ (vs : List Val) (xs : List V), RepL K mg hd μ H vs xs → ClL μ.length vs
  | [], _, h => .nil
  | v :: vs, _, h => by cases h with | cons h1 h2 => exact .cons (Rep.cl v _ h1) (RepL.cl vs _ h2)
end
theorem RepF.cl : ∀ {fs : List (Str × Val)} {xs : List (Str × V)}, RepF K mg hd μ H fs xs → ∀ f v, (f, v) ∈ fs → ClV μ.length v
  | _, _, .nil, f, v, h => nomatch h
  | _, _, .cons h1 h2, f, v, h => by
    rcases List.mem_cons.mp h with e | h
    · cases e; exact Rep.cl _ _ h1
    · exact RepF.cl h2 f v h
theorem CellOk.cl {a : Addr} {c : Cell} (h : CellOk K mg hd μ H a c) : ClC μ.length c := by
  cases c with
  | lst vs => obtain ⟨xs, _, r⟩ := h; exact RepL.cl _ _ r
  | ins c fs => obtain ⟨C, dx, fs', _, _, r⟩ := h; exact RepF.cl r
  | _ => trivial
mutual
theorem Rep.trim : ∀ (v : Val) (x : V), ClV n v → Rep K mg hd μ H v x → Rep K mg hd (μ.take n) H v x
  | .non, _, c, h => by cases h; exact .non
  | .bl b, _, c, h => by cases h; exact .bl b
  | .int i, _, c, h => by cases h; exact .int i
  | .str i, _, c, h => by cases h; exact .str i
  | .tup vs, _, c, h => by
    cases h with
    | tup h1 h2 => cases c with | tup c => exact .tup h1 (RepL.trim vs _ c h2)
  | .tpl vs, _, c, h => by
    cases h with
    | tpl h1 h2 => cases c with | tpl c => exact .tpl h1 (RepL.trim vs _ c h2)
  | .tpk vs, _, c, h => by
    cases h with
    | tpk h1 h2 h3 h4 => cases c with | tpk c => exact .tpk h1 (fun q => h2 (List.mem_of_mem_take q)) h3 (RepL.trim vs _ c h4)
  | .lst vs, _, c, h => by
    cases h with
    | lst h1 h2 h3 h4 => cases c with | lst c => exact .lst h1 (fun q => h2 (List.mem_of_mem_take q)) h3 (RepL.trim vs _ c h4)
  | .rol vs, _, c, h => by
    cases h with
    | rol h1 h2 => cases c with | rol c => exact .rol h1 (RepL.trim vs _ c h2)
  | .dic kvs, _, c, h => by
    cases h with
    | dic h1 h2 h3 => exact .dic h1 (fun q => h2 (List.mem_of_mem_take q)) h3
  | .dit kvs, _, c, h => by
    cases h with
    | dit h1 h2 h3 => exact .dit h1 (fun q => h2 (List.mem_of_mem_take q)) h3
  | .ref l, _, c, h => by
    cases h with
    | ref h1 => cases c with | ref c => exact .ref (by rw [List.getElem?_take_of_lt c]; exact h1)
  | .fn x, _, c, h => by
    cases h with
    | fn h1 => exact .fn h1
theorem RepL.trim : ∀ (vs : List Val) (xs : List V), ClL n vs → RepL K mg hd μ H vs xs → RepL K mg hd (μ.take n) H vs xs
  | [], _, c, h => by cases h; exact .nil
  | v :: vs, _, c, h => by
    cases h with
    | cons h1 h2 => cases c with | cons c1 c2 => exact .cons (Rep.trim v _ c1 h1) (RepL.trim vs _ c2 h2)
end
theorem RepF.trim : ∀ {fs : List (Str × Val)} {xs : List (Str × V)}, (∀ f v, (f, v) ∈ fs → ClV n v) → RepF K mg hd μ H fs xs → RepF K mg hd (μ.take n) H fs xs
  | _, _, _, .nil => .nil
  | _, _, c, .cons h1 h2 => .cons (Rep.trim _ _ (c _ _ List.mem_cons_self) h1) (RepF.trim (fun f v h => c f v (List.mem_cons_of_mem _ h)) h2)
theorem CellOk.trim {a : Addr} {c : Cell} (k : ClC n c) (h : CellOk K mg hd μ H a c) : CellOk K mg hd (μ.take n) H a c := by
  cases c with
  | lst vs => obtain ⟨xs, h1, r⟩ := h; exact ⟨xs, h1, RepL.trim _ _ k r⟩
  | ins c fs => obtain ⟨C, dx, fs', h1, h2, r⟩ := h; exact ⟨C, dx, fs', h1, h2, RepF.trim k r⟩
  | dic => exact h
  | dit => exact h
  | rod => exact h
end
mutual
theorem ClV.mono {n m : Nat} (h : n ≤ m) : ∀ (v : Val), ClV n v → ClV m v
  | .non, _ => .non
  | .bl b, _ => .bl b
  | .int i, _ => .int i
  | .str i, _ => .str i
  | .tup vs, c => by cases c with | tup c => exact .tup (ClL.mono h vs c)
  | .tpl vs, c => by cases c with | tpl c => exact .tpl (ClL.mono h vs c)
  | .tpk vs, c => by cases c with | tpk c => exact .tpk (ClL.mono h vs c)
  | .lst vs, c => by cases c with | lst c => exact .lst (ClL.mono h vs c)
  | .rol vs, c => by cases c with | rol c => exact .rol (ClL.mono h vs c)
  | .dic kvs, _ => .dic kvs
  | .dit kvs, _ => .dit kvs
  | .ref l, c => by cases c with | ref c => exact .ref (Nat.lt_of_lt_of_le c h)
  | .fn x, _ => .fn x
theorem ClL.mono {n m : Nat} (h : n ≤ m) : ∀ (vs : List Val), ClL n vs → ClL m vs
  | [], _ => .nil
  | v :: vs, c => by cases c with | cons c1 c2 => exact .cons (ClV.mono h v c1) (ClL.mono h vs c2)
end
theorem ClC.mono {n m : Nat} (h : n ≤ m) {c : Cell} (k : ClC n c) : ClC m c := by
  cases c with
  | lst vs => exact ClL.mono h vs k
  | ins c fs => exact fun f v hm => ClV.mono h v (k f v hm)
  | _ => trivial
/-- all that a store, arguments say stands in the store -/
def ClS (st : Sto) : Prop := ∀ c, c ∈ st → ClC st.length c
/-- (v', st') told as (v, st1): the cells behind are forgotten, a list that was made is told as a value -/
def Trim (st : Sto) (v' : Val) (st' : Sto) (v : Val) (st1 : Sto) : Prop :=
  st.length ≤ st1.length ∧ (∃ g, st' = st1 ++ g) ∧ (∀ c, c ∈ st1 → c ∈ st ∨ ClC st1.length c) ∧
  ((v = v' ∧ ClV st1.length v) ∨ ∃ l c, v' = .ref l ∧ st1.length ≤ l ∧ st'[l]? = some c ∧ isLD c = true ∧ v = .ofCell c ∧ ClC st1.length c)
def Refines (F B : FV) : Prop := ∀ args st, ClS st → ClL st.length args → match F args st with
  | .ok v st1 => ∃ v' st', B args st = .ok v' st' ∧ Trim st v' st' v st1
  | .exc c st1 => ∃ st', B args st = .exc c st' ∧ Trim st .non st' .non st1
  | .stuck => True
theorem Refines.refl_of {F B : FV} (h : ∀ args st, B args st = F args st) (hc : ∀ args st v st1, ClS st → ClL st.length args → F args st = .ok v st1 → ClV st1.length v ∧ ClS st1 ∧ st.length ≤ st1.length)
    (he : ∀ args st c st1, ClS st → ClL st.length args → F args st = .exc c st1 → ClS st1 ∧ st.length ≤ st1.length) : Refines F B := fun args st k1 k2 => by
  cases hf : F args st with
  | ok v st1 =>
    obtain ⟨h1, h2, h3⟩ := hc _ _ _ _ k1 k2 hf
    exact ⟨v, st1, by rw [h, hf], h3, ⟨[], by simp⟩, fun c hm => .inr (h2 c hm), .inl ⟨rfl, h1⟩⟩
  | exc c st1 =>
    obtain ⟨h2, h3⟩ := he _ _ _ _ k1 k2 hf
    exact ⟨st1, by rw [h, hf], h3, ⟨[], by simp⟩, fun c hm => .inr (h2 c hm), .inl ⟨rfl, .non⟩⟩
  | stuck => trivial
section
variable {K : PySem.W.Frag} {mg : Str → Option Value} {hd : List Addr} {μ μ' : List Addr} {H H' : Hp} {st st' st1 : Sto} {v v' : Val} {x : V}
theorem trim_sto (T : Trim st v' st' v st1) (o : StoOk K mg hd μ st H) (e : Ext μ H μ' H') (o' : StoOk K mg hd μ' st' H') : Ext μ H (μ'.take st1.length) H' ∧ StoOk K mg hd (μ'.take st1.length) st1 H' := by
  obtain ⟨h1, ⟨g, rfl⟩, h3, _⟩ := T
  have hlen : st1.length ≤ μ'.length := by rw [o'.len, List.length_append]; omega
  have hpre : μ.length ≤ st1.length := by rw [o.len]; exact h1
  refine ⟨⟨?_, e.out, e.tup, e.frz, fun a h n => e.new a (List.mem_of_mem_take h) n⟩, ?_⟩
  · obtain ⟨ν, p⟩ := e.pre
    refine ⟨ν.take (st1.length - μ.length), ?_⟩
    rw [p, List.take_append, List.take_of_length_le hpre]
  · refine ⟨by rw [List.length_take]; omega, o'.nd.sublist (List.take_sublist _ _), fun l a c q1 q2 => ?_, fun b hb => ?_⟩
    · have hl : l < st1.length := (List.getElem?_eq_some_iff.mp q2).1
      rw [List.getElem?_take_of_lt hl] at q1
      have k := o'.cell l a c q1 (by rw [List.getElem?_append_left hl]; exact q2)
      rcases h3 c (List.mem_of_getElem? q2) with m | m
      · -- a cell as it was
        obtain ⟨i, hi⟩ := List.getElem?_of_mem m
        obtain ⟨b, _, _, kb⟩ := o.at hi
        exact k.trim (ClC.mono (by rw [o.len]; exact h1) kb.cl)
      · exact k.trim m
    · obtain ⟨q1, ob, q2⟩ := o'.hid b hb
      exact ⟨fun q => q1 (List.mem_of_mem_take q), ob, q2⟩
theorem trim_val (T : Trim st v' st' v st1) (o' : StoOk K mg hd μ' st' H') (r : Rep K mg hd μ' H' v' x) : Rep K mg hd (μ'.take st1.length) H' v x := by
  obtain ⟨h1, ⟨g, rfl⟩, h3, h4⟩ := T
  rcases h4 with ⟨rfl, c⟩ | ⟨l, c, rfl, hl, hc, hz, rfl, k⟩
  · exact Rep.trim _ _ c r
  · cases r with
    | @ref l a hla =>
      have kc := o'.cell l a c hla hc
      refine CellOk.rep (kc.trim k) (fun q => ?_) (fun q => (o'.hid a q).1 (List.mem_of_getElem? hla)) hz
      obtain ⟨i, hi⟩ := List.getElem?_of_mem q
      have hi2 : i < st1.length := by
        have := (List.getElem?_eq_some_iff.mp hi).1
        rw [List.length_take] at this
        omega
      rw [List.getElem?_take_of_lt hi2] at hi
      have := o'.idx hi hla
      omega
end
theorem sp_refines {K : PySem.W.Frag} {mg : Str → Option Value} {F B : FV} (R : Refines F B) (vs : List V) (H : Hp) (Q : VK) (E : XK) (h : spD K mg F vs H Q E) : spD K mg B vs H Q E := by
  obtain ⟨hd, μ, st, args, o, r, G⟩ := h
  refine ⟨hd, μ, st, args, o, r, ?_⟩
  have k1 : ClS st := fun c hm => by
    obtain ⟨i, hi⟩ := List.getElem?_of_mem hm
    obtain ⟨b, _, _, kb⟩ := o.at hi
    have := kb.cl
    rw [o.len] at this
    exact this
  have k2 : ClL st.length args := by
    have := RepL.cl _ _ r
    rw [o.len] at this
    exact this
  have R := R args st k1 k2
  cases hf : F args st with
  | ok v st1 =>
    rw [hf] at R G
    obtain ⟨v', st', e, T⟩ := R
    rw [e]
    intro μ' H' e' o' x rx
    obtain ⟨e2, o2⟩ := trim_sto T o e' o'
    exact G _ H' e2 o2 x (trim_val T o' rx)
  | exc c st1 =>
    rw [hf] at R G
    obtain ⟨st', e, T⟩ := R
    rw [e]
    intro μ' H' e' o'
    obtain ⟨e2, o2⟩ := trim_sto T o e' o'
    exact G _ H' e2 o2
  | stuck => rw [hf] at G; exact G.elim
theorem Cal.refine {P : Program} {w : World} {K : PySem.W.Frag} {mg : Str → Option Value} {base : Heap} {k : Nat} {x : Str} {F B : FV} (c : Cal P w K mg base k x B) (R : Refines F B) : Cal P w K mg base k x F := by
  obtain ⟨f, fd, ps, G, h1, h2, h3⟩ := c.ex
  exact ⟨f, fd, ps, G.imp fun vs H Q E h => sp_refines R vs H Q E h, h1, h2, h3⟩
end DL

namespace DL
open PySem PySem.Spec PyProof.Rows L2
/-! ### a module's constants, -x, is None, chains -/
def negF : Val → Sto → Res Val
  | .int i, st => .ok (.int (-i)) st
  | _, _ => .stuck
def isNV (b : Bool) (v : Val) (st : Sto) : Res Val := .ok (.bl (match v with | .non => b | _ => !b)) st
section
variable {X : Cx} {W : WX} {a b c : Expr} {pos : Pos} {ma mb mc : ME}
theorem d_gi {x : Str} {n : Int} {pos : Pos} (hg : Gl X x) (hm : ∃ u, X.mg x = some u ∧ RelV (.int n) u) (hd : (x == ("__debug__" : Str)) = false := by decide) : PE X (.Name x pos) (TD X.K X.mg W (mC (.int n))) := by
  obtain ⟨u, h1, h2⟩ := hm
  exact d_gint hg h1 h2 hd
theorem d_gs {x : Str} {n : Str} {pos : Pos} (hg : Gl X x) (hm : ∃ u, X.mg x = some u ∧ RelV (.str n) u) (hd : (x == ("__debug__" : Str)) = false := by decide) : PE X (.Name x pos) (TD X.K X.mg W (mC (.str n))) := by
  obtain ⟨u, h1, h2⟩ := hm
  exact d_gstr hg h1 h2 hd
theorem d_gf {k : Nat} {x : Str} {F : FV} {pos : Pos} (hg : Gl X x) (hc : Cal X.prog X.w X.K X.mg X.base k x F) (hd : (x == ("__debug__" : Str)) = false := by decide) : PE X (.Name x pos) (TD X.K X.mg W (mC (.fn x))) := by
  obtain ⟨f, fd, ps, _, h1, _⟩ := hc.ex
  exact d_gfn hg h1 hd
theorem d_neg (ha : PE X a (TD X.K X.mg W ma)) : PE X (.UnaryOp .USub a pos) (TD X.K X.mg W (mUn negF ma)) :=
  PE.imp (pe_un un_neg ha) fun σ H Q ⟨hd, μ, ρ, st, S, G⟩ => ⟨hd, μ, ρ, st, S, Good.imp (Good.bind G) (fun μ1 st1 H1 v e1 o1 G1 x rx => by
    cases rx with
    | int i => exact ⟨i, rfl, G1.here o1 _ (.int _)⟩
    | _ => exact G1.elim) fun _ _ h => h⟩
theorem rep_non {K : PySem.W.Frag} {mg : Str → Option Value} {hd : List Addr} {μ : List Addr} {H : Hp} {v : Val} {x : V} (r : Rep K mg hd μ H v x) : decide (x = .non) = (match v with | .non => true | _ => false) := by
  cases r <;> rfl
theorem d_isN {j pos'} (ha : PE X a (TD X.K X.mg W ma)) : PE X (.Compare a [.Is] [.Constant .none j pos'] pos) (TD X.K X.mg W (mUn (isNV true) ma)) :=
  PE.imp (pe_cmp (pc_isN ha) rfl) fun σ H Q ⟨hd, μ, ρ, st, S, G⟩ => ⟨hd, μ, ρ, st, S, Good.imp (Good.bind G) (fun μ1 st1 H1 v e1 o1 G1 x rx => by
    have := G1.here o1
    show Q (V.bl (decide (x = V.non))) H1
    rw [rep_non rx]
    cases v <;> exact this _ (.bl _)) fun _ _ h => h⟩
theorem d_notN {j pos'} (ha : PE X a (TD X.K X.mg W ma)) : PE X (.Compare a [.IsNot] [.Constant .none j pos'] pos) (TD X.K X.mg W (mUn (isNV false) ma)) :=
  PE.imp (pe_cmp (pc_notN ha) rfl) fun σ H Q ⟨hd, μ, ρ, st, S, G⟩ => ⟨hd, μ, ρ, st, S, Good.imp (Good.bind G) (fun μ1 st1 H1 v e1 o1 G1 x rx => by
    have := G1.here o1
    show Q (V.bl (!decide (x = V.non))) H1
    rw [rep_non rx]
    cases v <;> exact this _ (.bl _)) fun _ _ h => h⟩
def mChain (F G : Val → Val → Sto → Res Val) (a b c : ME) : ME := fun ρ st => (a ρ st).bind fun v st1 => (b ρ st1).bind fun w st2 => (F v w st2).bind fun r st3 => match r with
  | .bl true => (c ρ st3).bind fun u st4 => G w u st4
  | .bl false => .ok (.bl false) st3
  | _ => .stuck
theorem tChain_of {F G : Val → Val → Sto → Res Val} (hF : NoExc2 F) (hG : NoExc2 G) {σ : L2.St} {H : Hp} {Q : VK} (h : TD X.K X.mg W (mChain F G ma mb mc) σ H Q) :
    tChain (rOf X.K X.mg F) (rOf X.K X.mg G) (TD X.K X.mg W ma) (TD X.K X.mg W mb) (TD X.K X.mg W mc) σ H Q := by
  obtain ⟨hd, μ, ρ, st, S, Gd⟩ := h
  refine ⟨hd, μ, ρ, st, S, Good.imp (Good.bind Gd) (fun μ1 st1 H1 v e1 o1 G1 x rx => ?_) fun _ _ h => h⟩
  refine ⟨hd, μ1, ρ, st1, S.ext e1 o1, Good.imp (Good.bind G1) (fun μ2 st2 H2 w e2 o2 G2 y ry => ?_) fun _ _ h => h⟩
  refine ⟨hd, μ2, st2, v, w, o2, Rep.ext e2 _ _ rx, ry, ?_⟩
  have S2 := (S.ext e1 o1).ext e2 o2
  cases hr : F v w st2 with
  | exc c st3 => exact absurd hr (hF _ _ _ _ _)
  | stuck => rw [hr] at G2; exact G2
  | ok u st3 =>
    rw [hr] at G2
    have G3 := Good.bind G2
    intro μ3 H3 e3 o3 z rz
    have G4 := G3 μ3 H3 e3 o3
    cases u with
    | bl k =>
      cases rz
      refine ⟨k, rfl, ?_⟩
      cases k with
      | false => exact G4.here o3 _ (.bl false)
      | true =>
        refine ⟨hd, μ3, ρ, st3, S2.ext e3 o3, Good.imp (Good.bind G4) (fun μ4 st4 H4 u e4 o4 G5 z4 r4 => ?_) fun _ _ h => h⟩
        refine ⟨hd, μ4, st4, w, u, o4, Rep.ext (e3.trans e4) _ _ ry, r4, ?_⟩
        cases hr2 : G w u st4 with
        | exc c st3 => exact absurd hr2 (hG _ _ _ _ _)
        | stuck => rw [hr2] at G5; exact G5
        | ok u5 st5 => rw [hr2] at G5; exact G5
    | _ => exact G4.elim
theorem d_chain {op op' : CmpOp} {F G : Val → Val → Sto → Res Val} (ho : OpD X (compareOp op) F) (hF : NoExc2 F) (ho' : OpD X (compareOp op') G) (hG : NoExc2 G) (ha : PE X a (TD X.K X.mg W ma)) (hb : PE X b (TD X.K X.mg W mb)) (hc : PE X c (TD X.K X.mg W mc))
    (hm : lastMarks [op, op'] [b, c] = false := by with_unfolding_all rfl) : PE X (.Compare a [op, op'] [b, c] pos) (TD X.K X.mg W (mChain F G ma mb mc)) :=
  PE.imp (pe_chain ho ho' ha hb hc hm) fun _ _ _ h => tChain_of hF hG h
theorem dt_chain {op op' : CmpOp} {F G : Val → Val → Sto → Res Val} (ho : OpD X (compareOp op) F) (hF : NoExc2 F) (ho' : OpD X (compareOp op') G) (hG : NoExc2 G) (ha : PE X a (TD X.K X.mg W ma)) (hb : PE X b (TD X.K X.mg W mb)) (hc : PE X c (TD X.K X.mg W mc))
    (hm : lastMarks [op, op'] [b, c] = false := by with_unfolding_all rfl) : PT X (.Compare a [op, op'] [b, c] pos) (TDT X.K X.mg W (mBool (mChain F G ma mb mc))) :=
  PT.imp (pt_chain ho ho' ha hb hc hm) fun σ H Q h => by
    obtain ⟨hd, μ, ρ, st, S, Gd⟩ := tTest_of h
    exact tChain_of hF hG ⟨hd, μ, ρ, st, S, Gd⟩
end
end DL
namespace DL
open PySem PySem.Spec PyProof.Rows L2 L2H
/-! ### what the top has written -/
structure ExcT (K : PySem.W.Frag) (mg : Str → Option Value) (c : Str) : Prop where
  ex : ∃ C : Addr, mg c = some (.ref C) ∧ PySem.W.excIn K C [.type "ValueError", .type "Exception", .type "BaseException", .type "object"] "ValueError.__new__" = true ∧ PySem.W.keepIn K (.ref C) = true ∧
    PySem.W.subIn K (.ref C) (.type "BaseException") = some true ∧ PySem.W.typeIn K (.ref C) = some (.type "type")
theorem ds_raiseT {X : Cx} {W : WX} {x m : Str} {jj : Nat} {p p2 p3 pos : Pos} (hc : X.calm = true) (tk : Takes X W) (h : ExcT X.K X.mg x) (hg : Gl X x) (hdb : (x == ("__debug__" : Str)) = false := by decide) :
    PS X (.Raise (some (.Call (.Name x p) [.Constant (.str m) jj p2] [] p3)) none pos) (TDS X.K X.mg W (mRaise x)) := by
  obtain ⟨C, h1, h2, h3, h4, h5⟩ := h.ex
  exact ds_raise hc tk PySem.F.excBase_ValueError h2 h1 h3 (raises_own h4 h5) hg hdb
structure DefT (K : PySem.W.Frag) (mg : Str → Option Value) (x : Str) (st : Stmt) (ps : List Str) : Prop where
  ex : ∃ (f : Addr) (fd : FuncData), Fun K x x st f fd ∧ mg x = some (.ref f) ∧ Binds K fd ps []
section
variable {P : Program} {w : World} {K : PySem.W.Frag} {mg : Str → Option Value} {base : Heap}
theorem cal_of {x : Str} {st : Stmt} {N ps : List Str} {k : Nat} {body : MS} {F : FV} (T : DefT K mg x st ps) (S : FnScope N ps (defScope st)) (R : Refines F (runB ps.length N.length body))
    (hbody : ∀ (f : Addr) (cdv : Value) (A : Around) (outer : List Env) (s : Shared) (H : Hp) (E : XK), Room k (A.deeper (envOfC x (defScope st) s.heap.objs.size f cdv)) →
      PSs (cxOf (L2.CX P w) P w K mg base N x (defScope st) f cdv A outer s H E) (defBody st) (TDS K mg (fun cls d _ H => E cls d H) body)) : Cal P w K mg base (k + 1) x F := by
  obtain ⟨f, fd, Fu, hm, b⟩ := T.ex
  exact Cal.refine ⟨f, fd, ps, fn_d Fu S (hbody f), hm, Fu.kp, b⟩ R
theorem Cal.mono {j k : Nat} {x : Str} {F : FV} (c : Cal P w K mg base j x F) (h : j ≤ k) : Cal P w K mg base k x F := by
  obtain ⟨f, fd, ps, G, h1, h2, h3⟩ := c.ex
  exact ⟨f, fd, ps, G.mono h, h1, h2, h3⟩
end
/-- all the errors that are met: what is asked of their class -/
structure ErrT (K : PySem.W.Frag) (mg : Str → Option Value) (DE : Addr) (c : Str) (D : Addr) : Prop where
  gD : mg c = some (.ref D)
  ec : ExcC K D
  ve : PySem.W.kitOne K (.ref D) (.type "ValueError") = some true
  de : PySem.W.exmOne K (.ref D) (.ref DE) = some true
def spLaw (K : PySem.W.Frag) : Sp := fun vs H Q _ => ∃ (a : Addr) (ns : List Int), vs = [.ref a] ∧ SqL K H a (ns.map V.int) ∧ Only H ∧ ns.length ≤ 63 ∧ ∀ H', Q (.bl true) H'
/-- the law's own promise, from what it reckons -/
theorem law_sp {K : PySem.W.Frag} {mg : Str → Option Value} {F : FV} (h : ∀ ns : List Int, ns.length ≤ 63 → ∃ st, F [.rol (ns.map Val.int)] [] = .ok (.bl true) st) (vs : List V) (H : Hp) (Q : VK) (E : XK) (q : spLaw K vs H Q E) : spD K mg F vs H Q E := by
  obtain ⟨a, ns, rfl, hs, ho, hl, k⟩ := q
  refine ⟨[], [], [], [.rol (ns.map Val.int)], ⟨rfl, List.nodup_nil, fun l a c h1 _ => by simp at h1, fun b hb => nomatch hb⟩, .cons (.rol ?_ (RepL.of_ints ns)) .nil, ?_⟩
  · rcases hs with (hs | ⟨o, hs⟩) | hs
    · rcases ho a with z | ⟨o, xs, z⟩
      · rw [hs] at z; cases z
      · rw [hs] at z; cases z
    · exact .inl ⟨o, hs⟩
    · exact .inr hs
  · obtain ⟨st, e⟩ := h ns hl
    rw [e]
    intro μ' H' _ _ x rx
    cases rx
    exact k H'
theorem law_fn {P : Program} {w : World} {K : PySem.W.Frag} {mg : Str → Option Value} {base : Heap} {k : Nat} {f : Addr} {fd : FuncData} {x : Str} {F : FV} (h : ∀ ns : List Int, ns.length ≤ 63 → ∃ st, F [.rol (ns.map Val.int)] [] = .ok (.bl true) st)
    (G : FnOk P w K mg base (L2.CX P w) k f fd [x] (spD K mg F)) : FnOk P w K mg base (L2.CX P w) k f fd [x] (spLaw K) := by
  have G2 : FnOk P w K mg base (L2.CX P w) k f fd [x] (fun vs H Q E => spLaw K vs H Q E) := G.imp fun vs H Q E q => law_sp h vs H Q E q
  exact G2
end DL

namespace DL
open PySem PySem.Spec PyProof.Rows L2
/-! ### what is never reached -/
def mStuck : MS := fun _ _ => .stuck
theorem tds_stuck {K : PySem.W.Frag} {mg : Str → Option Value} {W : WX} {D : Ends} {σ : St} {H : Hp} (h : TDS K mg W mStuck D σ H) : False := by
  obtain ⟨hd, μ, ρ, st, S, G⟩ := TDS_def.mp h
  exact G
theorem dss_stuck {X : Cx} {W : WX} {b : List Stmt} : PSs X b (TDS X.K X.mg W mStuck) := ⟨fun pins s σ H D I h => (tds_stuck h).elim⟩
theorem ds_stuck {X : Cx} {W : WX} {b : Stmt} : PS X b (TDS X.K X.mg W mStuck) := ⟨fun pins s σ H D I h => (tds_stuck h).elim⟩
def mStuckE : ME := fun _ _ => .stuck
theorem d_stuck {X : Cx} {W : WX} {e : Expr} : PE X e (TD X.K X.mg W mStuckE) := ⟨fun pins s σ H Q I h => by
  obtain ⟨hd, μ, ρ, st, S, G⟩ := h
  exact G.elim⟩
/-! ### dicts: keys are whole numbers, texts -/
def keyD : Val → Option Key
  | .int i => some (.inl i)
  | .str x => some (.inr x)
  | _ => none
def ofV : V → Option Val
  | .non => some .non
  | .bl b => some (.bl b)
  | .int i => some (.int i)
  | .str x => some (.str x)
  | _ => none
def keyV : Key → Val
  | .inl i => .int i
  | .inr x => .str x
section
variable {K : PySem.W.Frag} {mg : Str → Option Value} {hd : List Addr} {μ : List Addr} {H : Hp}
theorem Rep.key {v : Val} {x : V} {k : Key} (r : Rep K mg hd μ H v x) (h : keyD v = some k) : x = kV k := by
  cases r <;> cases h <;> rfl
theorem rep_ofV {x : V} {v : Val} (h : ofV x = some v) : Rep K mg hd μ H v x := by
  cases x <;> cases h
  · exact .non
  · exact .bl _
  · exact .int _
  · exact .str _
theorem rep_keyV (k : Key) : Rep K mg hd μ H (keyV k) (kV k) := by
  cases k
  · exact .int _
  · exact .str _
theorem rep_keys : ∀ kvs : List (Key × V), RepL K mg hd μ H (kvs.map fun kv => keyV kv.1) (kvs.map fun kv => kV kv.1)
  | [] => .nil
  | p :: kvs => .cons (rep_keyV p.1) (rep_keys kvs)
end
/-! ### {} -/
def mD0 : MC := fun _ st => .ok (.dic []) st
theorem df_dnew {X : Cx} {W : WX} {pos : Pos} : PE X (.Dict [] [] pos) (TDF X.K X.mg W mD0) := PE.imp pe_dnewK fun σ H Q ⟨hd, μ, ρ, st, S, G⟩ p hp => by
  have o := S.sto
  have o2 := o.obj (o := .dK []) hp
  have k : CellOk X.K X.mg hd μ (upd H p (.dK [])) p (.dic []) := upd_same
  exact G μ _ (Ext.obj hp) o2 p hp (nin_of o hp) (nhid_of o hp) k (o.new hp (show CellOk X.K X.mg hd (μ ++ [p]) (upd H p (.dK [])) p (.dic []) from upd_same))
/-! ### d[k] -/
def dgetF (v k : Val) (st : Sto) : Res Val := match dictOf v st, keyD k with
  | some kvs, some q => match (valV kvs q).bind ofV with
    | some u => .ok u st
    | none => .stuck
  | _, _ => .stuck
theorem d_dix {X : Cx} {W : WX} {a b : Expr} {pos : Pos} {ma mb : ME} (hu : X.A.units + 64 < cLine) (ha : PE X a (TD X.K X.mg W ma)) (hb : PE X b (TD X.K X.mg W mb)) (hs : NoSl b := by exact fun _ _ => rfl) : PE X (.Subscript a b pos) (TD X.K X.mg W (mOp dgetF ma mb)) :=
  PE.imp (pe_dget (by omega) ha hb hs) fun σ H Q h => by
    have hne : NoExc2 dgetF := fun v w st c st' h => by
      unfold dgetF at h
      split at h
      · split at h <;> cases h
      · cases h
    obtain ⟨hd, μ, ρ, st, S, G⟩ := tOp_of hne h
    refine ⟨hd, μ, ρ, st, S, Good.imp G (fun μ1 st1 H1 v e1 o1 k x rx => ?_) fun _ _ h => h⟩
    obtain ⟨hd2, μ2, ρ2, st2, S2, G2⟩ := k x rx
    refine ⟨hd2, μ2, ρ2, st2, S2, Good.imp G2 (fun μ3 st3 H3 w e3 o3 k3 y ry => ?_) fun _ _ h => h⟩
    obtain ⟨hd4, μ4, st4, v4, w4, o4, r1, r2, G4⟩ := k3 y ry
    unfold dgetF at G4
    cases hq : dictOf v4 st4 with
    | none => rw [hq] at G4; exact G4.elim
    | some kvs =>
      cases hk : keyD w4 with
      | none => rw [hq, hk] at G4; exact G4.elim
      | some q =>
        rw [hq, hk] at G4
        dsimp only at G4
        cases hv : valV kvs q with
        | none => rw [hv] at G4; exact G4.elim
        | some u =>
          rw [hv] at G4
          simp only [Option.bind] at G4
          cases hu2 : ofV u with
          | none => rw [hu2] at G4; exact G4.elim
          | some z =>
            rw [hu2] at G4
            obtain ⟨p, rfl, rd⟩ := dictOf_at o4 r1 hq
            exact ⟨p, u, rfl, .inl ⟨kvs, q, rd, r2.key hk, hv.symm⟩, G4.here o4 u (rep_ofV hu2)⟩
/-! ### d.get(k, x) -/
def mGet (mo mi mf : ME) : ME := fun ρ st => (mo ρ st).bind fun v st1 => if (dictOf v st1).isSome = true then (mi ρ st1).bind fun k st2 => (mf ρ st2).bind fun z st3 => match dictOf v st3, keyD k with
  | some kvs, some q => match valV kvs q with
    | some x => match ofV x with
      | some u => .ok u st3
      | none => .stuck
    | none => .ok z st3
  | _, _ => .stuck else .stuck
theorem d_dget2 {X : Cx} {W : WX} {o e f : Expr} {apos cpos : Pos} {mo mi mf : ME} (hu : X.A.units + 64 < cLine) (ho : PE X o (TD X.K X.mg W mo)) (he : PE X e (TD X.K X.mg W mi)) (hf : PE X f (TD X.K X.mg W mf)) (m : M2 X o "get" apos e f cpos) :
    PE X (.Call (.Attribute o "get" apos) [e, f] [] cpos) (TD X.K X.mg W (mGet mo mi mf)) :=
  PE.imp (pe_dget2 (by omega) ho he hf m) fun σ H Q ⟨hd, μ, ρ, st, S, G⟩ => ⟨hd, μ, ρ, st, S, Good.imp (Good.bind G) (fun μ1 st1 H1 v e1 o1 G1 x rx => by
    by_cases hi : (dictOf v st1).isSome = true
    · rw [if_pos hi] at G1
      obtain ⟨kvs, hk⟩ := Option.isSome_iff_exists.mp hi
      obtain ⟨p, rfl, rd⟩ := dictOf_at o1 rx hk
      refine ⟨p, rfl, .inl ⟨kvs, rd⟩, hd, μ1, ρ, st1, S.ext e1 o1, Good.imp (Good.bind G1) (fun μ2 st2 H2 k e2 o2 G2 y ry => ?_) fun _ _ h => h⟩
      refine ⟨hd, μ2, ρ, st2, (S.ext e1 o1).ext e2 o2, Good.imp (Good.bind G2) (fun μ3 st3 H3 z e3 o3 G3 w rw' => ?_) fun _ _ h => h⟩
      have rx3 := Rep.ext (e2.trans e3) _ _ rx
      have ry3 := Rep.ext e3 _ _ ry
      cases hq : dictOf v st3 with
      | none => rw [hq] at G3; exact G3.elim
      | some kvs3 =>
        cases hkk : keyD k with
        | none => rw [hq, hkk] at G3; exact G3.elim
        | some q =>
          rw [hq, hkk] at G3
          dsimp only at G3
          obtain ⟨p', hp', rd3⟩ := dictOf_at o3 rx3 hq
          cases hp'
          refine ⟨valV kvs3 q, .inl ⟨kvs3, q, rd3, ry3.key hkk, rfl⟩, ?_⟩
          cases hv : valV kvs3 q with
          | none => rw [hv] at G3; exact G3.here o3 w rw'
          | some x =>
            rw [hv] at G3
            dsimp only at G3
            cases hx : ofV x with
            | none => rw [hx] at G3; exact G3.elim
            | some u => rw [hx] at G3; exact G3.here o3 x (rep_ofV hx)
    · rw [if_neg hi] at G1
      exact G1.elim) fun _ _ h => h⟩
/-! ### d[k] = v -/
def mDPut (mo mi mv : ME) : MS := fun ρ st => withE (mv ρ st) ρ fun w st1 => withE (mo ρ st1) ρ fun v st2 => withE (mi ρ st2) ρ fun k st3 => match v, keyD k, flatD w with
  | .ref l, some q, some x => (match st3[l]? with
    | some (.dic kvs) => if kvs.length < sizeLine then .next ρ (st3.set l (.dic (putK kvs q x))) else .stuck
    | _ => .stuck)
  | _, _, _ => .stuck
theorem set_dic {K : PySem.W.Frag} {mg : Str → Option Value} {hd : List Addr} {μ : List Addr} {H : Hp} {st : Sto} (o : StoOk K mg hd μ st H) {l : Nat} {a : Addr} {kvs kvs' : List (Key × V)} (hl : μ[l]? = some a) (h : H a = some (.dK kvs)) :
    Ext μ H μ (upd H a (.dK kvs')) ∧ StoOk K mg hd μ (st.set l (.dic kvs')) (upd H a (.dK kvs')) := by
  have e : Ext μ H μ (upd H a (.dK kvs')) := Ext.set (List.mem_of_getElem? hl) h trivial
  exact ⟨e, o.set hl h trivial upd_same⟩
theorem ds_dput {X : Cx} {W : WX} {a b e : Expr} {pos tpos : Pos} {mo mi mv : ME} (hu : X.A.units + 64 < cLine) (hv : PE X e (TD X.K X.mg W mv)) (ho : PE X a (TD X.K X.mg W mo)) (hi : PE X b (TD X.K X.mg W mi))
    (hs : swapsWith e (some (.Subscript a b tpos)) pos.line X.env = pure false := by rfl) : PS X (.Assign [.Subscript a b tpos] e pos) (TDS X.K X.mg W (mDPut mo mi mv)) :=
  PS.imp (ps_dput (by omega) ho hi hv hs) fun D σ H h => by
    obtain ⟨hd, μ, ρ, st, S, G⟩ := TDS_def.mp h
    refine ⟨hd, μ, ρ, st, S, ?_⟩
    unfold mDPut at G
    cases hr : mv ρ st with
    | stuck => rw [hr] at G; exact G
    | exc c st1 => rw [hr] at G; exact fun μ1 H1 e1 o1 => G μ1 H1 σ e1 (S.ext e1 o1)
    | ok w st1 =>
      rw [hr] at G
      intro μ1 H1 e1 o1 xw rxw
      have S1 := S.ext e1 o1
      have G := GoodS.ext G e1
      refine ⟨hd, μ1, ρ, st1, S1, ?_⟩
      simp only [withE] at G
      cases hr2 : mo ρ st1 with
      | stuck => rw [hr2] at G; exact G
      | exc c st2 => rw [hr2] at G; exact fun μ2 H2 e2 o2 => G μ2 H2 σ e2 (S1.ext e2 o2)
      | ok v st2 =>
        rw [hr2] at G
        intro μ2 H2 e2 o2 xv rxv
        have S2 := S1.ext e2 o2
        have G := GoodS.ext G e2
        refine ⟨hd, μ2, ρ, st2, S2, ?_⟩
        dsimp only at G
        cases hr3 : mi ρ st2 with
        | stuck => rw [hr3] at G; exact G
        | exc c st3 => rw [hr3] at G; exact fun μ3 H3 e3 o3 => G μ3 H3 σ e3 (S2.ext e3 o3)
        | ok k st3 =>
          rw [hr3] at G
          intro μ3 H3 e3 o3 xk rxk
          have S3 := S2.ext e3 o3
          have G := GoodS.ext G e3
          dsimp only at G
          have rxv := Rep.ext e3 _ _ rxv
          have rxw := Rep.ext (e2.trans e3) _ _ rxw
          cases rxv with
          | @ref l p hl =>
            cases hk : keyD k with
            | none => rw [hk] at G; exact G.elim
            | some q =>
              cases hw : flatD w with
              | none => rw [hk, hw] at G; exact G.elim
              | some x =>
                rw [hk, hw] at G
                dsimp only at G
                cases hc : st3[l]? with
                | none => rw [hc] at G; exact G.elim
                | some c =>
                  rw [hc] at G
                  cases c with
                  | dic kvs =>
                    dsimp only at G
                    by_cases hz : kvs.length < sizeLine
                    · rw [if_pos hz] at G
                      have hH : H3 p = some (.dK kvs) := o3.cell l p _ hl hc
                      obtain ⟨e4, o4⟩ := set_dic (kvs' := putK kvs q x) o3 hl hH
                      obtain ⟨rfl, _⟩ := rxw.flat hw
                      exact ⟨p, _, rfl, .inl ⟨kvs, q, hH, rxk.key hk, hz, rfl⟩, G μ3 _ σ e4 (S3.ext e4 o4)⟩
                    · rw [if_neg hz] at G
                      exact G.elim
                  | _ => exact G.elim
          | _ => exact G.elim
/-! ### list(d), k in d -/
def listKG (v : Val) (st : Sto) : Option Val := (dictOf v st).map fun kvs => .lst (kvs.map fun kv => keyV kv.1)
theorem listK_ok {X : Cx} (hc : X.calm = true) : CallD X (.type "list") (lift1 listKG) := call1 lift1_of fun pins s σ H x u Q hd μ st v r I ru o r1 g q => by
  unfold listKG at g
  cases hs : dictOf v st with
  | none => rw [hs] at g; cases g
  | some kvs =>
    rw [hs] at g
    cases g
    obtain ⟨p, rfl, rd⟩ := dictOf_at o r1 hs
    exact call_listD hc pins s σ H _ _ Q I (.cons ru .nil) ⟨p, kvs, rfl, rd, fun b hb => q μ _ _ (Ext.obj hb) (o.obj hb) (new_lst o (rep_keys kvs) hb)⟩
end DL

/-! Walks over the keys of a dict: it is locked meanwhile. -/
namespace DL
open PySem PySem.Spec PyProof.Rows L2
/-- what is read stays to be read -/
structure Weak (H H' : Hp) : Prop where
  tup : ∀ a xs, Rd H a (.tup xs) → Rd H' a (.tup xs)
  lst : ∀ a xs, H a = some (.lst xs) → H' a = some (.lst xs)
  tps : ∀ a xs, H a = some (.tup xs) → H' a = some (.tup xs)
  fls : ∀ a o xs, H a = some (.frz o (.lst xs)) → H' a = some (.frz o (.lst xs))
  dK : ∀ a kvs, Rd H a (.dK kvs) → Rd H' a (.dK kvs)
  dT : ∀ a kvs, Rd H a (.dT kvs) → Rd H' a (.dT kvs)
  ftp : ∀ a o xs, H a = some (.frz o (.tup xs)) → H' a = some (.frz o (.tup xs))
  some : ∀ a o, H a = .some o → ∃ o', H' a = .some o'
section
variable {K : PySem.W.Frag} {mg : Str → Option Value} {hd : List Addr} {μ : List Addr} {H H' : Hp}
mutual
theorem Rep.weak (w : Weak H H') : ∀ (v : Val) (x : V), Rep K mg hd μ H v x → Rep K mg hd μ H' v x
  | .non, _, h => by cases h; exact .non
  | .bl b, _, h => by cases h; exact .bl b
  | .int i, _, h => by cases h; exact .int i
  | .str i, _, h => by cases h; exact .str i
  | .tup vs, _, h => by
    cases h with
    | tup h1 h2 => exact .tup (h1.imp (fun q => w.tup _ _ q) id) (RepL.weak w vs _ h2)
  | .tpl vs, _, h => by
    cases h with
    | tpl h1 h2 =>
      obtain ⟨q, h1, h3, h4⟩ := h1
      exact .tpl ⟨q, w.ftp _ _ _ h1, h3, h4⟩ (RepL.weak w vs _ h2)
  | .tpk vs, _, h => by
    cases h with
    | tpk h1 h2 h0 h3 => exact .tpk (w.tps _ _ h1) h2 h0 (RepL.weak w vs _ h3)
  | .lst vs, _, h => by
    cases h with
    | lst h1 h2 h0 h3 => exact .lst (w.lst _ _ h1) h2 h0 (RepL.weak w vs _ h3)
  | .rol vs, _, h => by
    cases h with
    | rol h1 h2 => exact .rol (h1.imp (fun ⟨o, q⟩ => ⟨o, w.fls _ _ _ q⟩) id) (RepL.weak w vs _ h2)
  | .dic kvs, _, h => by
    cases h with
    | dic h1 h2 h0 => exact .dic (w.dK _ _ h1) h2 h0
  | .dit kvs, _, h => by
    cases h with
    | dit h1 h2 h0 => exact .dit (w.dT _ _ h1) h2 h0
  | .ref l, _, h => by
    cases h with
    | ref h1 => exact .ref h1
  | .fn x, _, h => by
    cases h with
    | fn h1 => exact .fn h1
theorem RepL.weak (w : Weak H H') : ∀ (vs : List Val) (xs : List V), RepL K mg hd μ H vs xs → RepL K mg hd μ H' vs xs
  | [], _, h => by cases h; exact .nil
  | v :: vs, _, h => by
    cases h with
    | cons h1 h2 => exact .cons (Rep.weak w v _ h1) (RepL.weak w vs _ h2)
end
theorem RepF.weak (w : Weak H H') : ∀ {vs : List (Str × Val)} {xs : List (Str × V)}, RepF K mg hd μ H vs xs → RepF K mg hd μ H' vs xs
  | _, _, .nil => .nil
  | _, _, .cons h1 h2 => .cons (Rep.weak w _ _ h1) (RepF.weak w h2)
theorem CellOk.weak (w : Weak H H') {a : Addr} (ha : H' a = H a) {c : Cell} (k : CellOk K mg hd μ H a c) : CellOk K mg hd μ H' a c := by
  cases c with
  | lst vs =>
    obtain ⟨xs, h, r⟩ := k
    exact ⟨xs, w.lst _ _ h, RepL.weak w _ _ r⟩
  | dic kvs => exact ha.trans k
  | dit kvs => exact ha.trans k
  | rod kvs => exact w.dK _ _ k
  | ins c fs =>
    obtain ⟨C, dx, fs', m, h, r⟩ := k
    exact ⟨C, dx, fs', m, ha.trans h, RepF.weak w r⟩
theorem StoOk.weak {st : Sto} (o : StoOk K mg hd μ st H) (w : Weak H H') (hn : ∀ a ∈ μ, H' a = H a) : StoOk K mg hd μ st H' :=
  ⟨o.len, o.nd, fun l a c h1 h2 => (o.cell l a c h1 h2).weak w (hn a (List.mem_of_getElem? h1)), fun b hb => by
    obtain ⟨h1, u, h2⟩ := o.hid b hb
    exact ⟨h1, w.some b u h2⟩⟩
theorem StoOk.weakAt {st : Sto} {l : Nat} {d : Addr} {c : Cell} (o : StoOk K mg hd μ st H) (w : Weak H H') (hl : μ[l]? = some d) (hn : ∀ a ∈ μ, a ≠ d → H' a = H a) (hc : CellOk K mg hd μ H' d c) : StoOk K mg hd μ (st.set l c) H' := by
  refine ⟨by rw [List.length_set]; exact o.len, o.nd, fun m b e h1 h2 => ?_, fun b hb => by
    obtain ⟨h1, u, h2⟩ := o.hid b hb
    exact ⟨h1, w.some b u h2⟩⟩
  by_cases z : m = l
  · subst z
    rw [hl] at h1
    cases h1
    have hlt : m < st.length := by rw [← o.len]; exact (List.getElem?_eq_some_iff.mp hl).1
    rw [List.getElem?_set_self hlt] at h2
    cases h2
    exact hc
  · rw [List.getElem?_set_ne (fun q => z q.symm)] at h2
    exact (o.cell m b e h1 h2).weak w (hn b (List.mem_of_getElem? h1) fun q => z (o.idx h1 (by rw [q]; exact hl)))
/-- locked, unlocked -/
theorem weak_lock {d : Addr} {kvs : List (Key × V)} (od : Obj) (h : H d = .some (.dK kvs)) : Weak H (upd H d (.frz od (.dK kvs))) where
  tup a xs q := by
    have z : a ≠ d := by
      rintro rfl
      rcases q with q | ⟨o, q⟩
      · rw [h] at q; cases q
      · rw [h] at q; cases q
    rcases q with q | ⟨o, q⟩
    · exact .inl (by rw [upd_ne z]; exact q)
    · exact .inr ⟨o, by rw [upd_ne z]; exact q⟩
  lst a xs q := by rw [upd_ne (by rintro rfl; rw [h] at q; cases q)]; exact q
  tps a xs q := by rw [upd_ne (by rintro rfl; rw [h] at q; cases q)]; exact q
  fls a o xs q := by rw [upd_ne (by rintro rfl; rw [h] at q; cases q)]; exact q
  ftp a o xs q := by rw [upd_ne (by rintro rfl; rw [h] at q; cases q)]; exact q
  dK a ks q := by
    by_cases z : a = d
    · subst z
      rcases q with q | ⟨o, q⟩
      · rw [h] at q; cases q; exact .inr ⟨od, upd_same⟩
      · rw [h] at q; cases q
    · rcases q with q | ⟨o, q⟩
      · exact .inl (by rw [upd_ne z]; exact q)
      · exact .inr ⟨o, by rw [upd_ne z]; exact q⟩
  dT a xs q := by
    have z : a ≠ d := by
      rintro rfl
      rcases q with q | ⟨o, q⟩
      · rw [h] at q; cases q
      · rw [h] at q; cases q
    rcases q with q | ⟨o, q⟩
    · exact .inl (by rw [upd_ne z]; exact q)
    · exact .inr ⟨o, by rw [upd_ne z]; exact q⟩
  some a o q := by
    by_cases z : a = d
    · subst z; exact ⟨_, upd_same⟩
    · exact ⟨o, by rw [upd_ne z]; exact q⟩
theorem weak_unlock {d : Addr} {kvs : List (Key × V)} {od : Obj} (h : H d = .some (.frz od (.dK kvs))) : Weak H (upd H d (.dK kvs)) where
  tup a xs q := by
    have z : a ≠ d := by
      rintro rfl
      rcases q with q | ⟨o, q⟩
      · rw [h] at q; cases q
      · rw [h] at q; cases q
    rcases q with q | ⟨o, q⟩
    · exact .inl (by rw [upd_ne z]; exact q)
    · exact .inr ⟨o, by rw [upd_ne z]; exact q⟩
  lst a xs q := by rw [upd_ne (by rintro rfl; rw [h] at q; cases q)]; exact q
  tps a xs q := by rw [upd_ne (by rintro rfl; rw [h] at q; cases q)]; exact q
  fls a o xs q := by rw [upd_ne (by rintro rfl; rw [h] at q; cases q)]; exact q
  ftp a o xs q := by rw [upd_ne (by rintro rfl; rw [h] at q; cases q)]; exact q
  dK a ks q := by
    by_cases z : a = d
    · subst z
      rcases q with q | ⟨o, q⟩
      · rw [h] at q; cases q
      · rw [h] at q; cases q; exact .inl upd_same
    · rcases q with q | ⟨o, q⟩
      · exact .inl (by rw [upd_ne z]; exact q)
      · exact .inr ⟨o, by rw [upd_ne z]; exact q⟩
  dT a xs q := by
    have z : a ≠ d := by
      rintro rfl
      rcases q with q | ⟨o, q⟩
      · rw [h] at q; cases q
      · rw [h] at q; cases q
    rcases q with q | ⟨o, q⟩
    · exact .inl (by rw [upd_ne z]; exact q)
    · exact .inr ⟨o, by rw [upd_ne z]; exact q⟩
  some a o q := by
    by_cases z : a = d
    · subst z; exact ⟨_, upd_same⟩
    · exact ⟨o, by rw [upd_ne z]; exact q⟩
theorem Ext.unlock {μ' : List Addr} {d : Addr} {kvs : List (Key × V)} {od : Obj} (h : H d = .some (.dK kvs)) (e : Ext μ (upd H d (.frz od (.dK kvs))) μ' H') : H' d = .some (.frz od (.dK kvs)) ∧ Ext μ H μ' (upd H' d (.dK kvs)) := by
  have hd' : H' d = .some (.frz od (.dK kvs)) := e.frz _ _ _ upd_same
  refine ⟨hd', e.pre, fun a o q n => ?_, fun a xs q => ?_, fun a o u q => ?_, fun a q n => ?_⟩
  · by_cases z : a = d
    · subst z
      rw [h] at q
      cases q
      exact upd_same
    · rw [upd_ne z]
      exact e.out a o (by rw [upd_ne z]; exact q) n
  · exact (weak_unlock hd').tup a xs (e.tup a xs ((weak_lock od h).tup a xs q))
  · have z : a ≠ d := by rintro rfl; rw [h] at q; cases q
    rw [upd_ne z]
    exact e.frz a o u (by rw [upd_ne z]; exact q)
  · have := e.new a q n
    have z : a ≠ d := by rintro rfl; rw [upd_same] at this; cases this
    rw [upd_ne z] at this
    exact this
theorem Sim.weak {ρ : Rho} {st st' : Sto} {σ : St} (S : Sim K mg hd μ ρ st σ H) (w : Weak H H') (o : StoOk K mg hd μ st' H') : Sim K mg hd μ ρ st' σ H' :=
  ⟨o, S.len, fun i v h => by
    obtain ⟨x, h1, h2⟩ := S.slot i v h
    exact ⟨x, h1, Rep.weak w _ _ h2⟩⟩
/-! ### the walk -/
def keysW (kvs : List (Key × V)) : Walk := ⟨kvs.map fun kv => keyV kv.1, none⟩
theorem wk_keys {d : Addr} {o : Obj} {kvs : List (Key × V)} (h : H d = some (.frz o (.dK kvs))) (z : kvs.length ≤ sizeLine) : Wk K mg hd μ H (Itk d o kvs) (keysW kvs) where
  go hd' hh i μ' st' H' e _ _ hi := ⟨e.frz _ _ _ h, by simpa [keysW] using hi⟩
  stop hd' hh i μ' st' H' e _ _ hi := ⟨e.frz _ _ _ h, by simpa [keysW] using hi⟩
  yld hd' hh i μ' st' H' x H2 e ok _ hy hi := by
    obtain ⟨rfl, k, v, h1, rfl⟩ := hy
    exact ⟨keyV k, by simp [keysW, h1], Ext.refl, ok, rep_keyV k⟩
  len := by simpa [keysW] using z
end
def SzD (H : Hp) : Prop := ∀ a kvs, Rd H a (.dK kvs) → kvs.length ≤ sizeLine
theorem szD_of {X : Cx} {pins : List (Addr × Obj)} {s : Shared} {σ : St} {H : Hp} (I : Inv X pins σ H s) : SzD H := fun a kvs h => by
  rcases h with h | ⟨o, h⟩
  · exact (I.hok a _ h).1
  · exact (I.hok a _ h).2.1
theorem PS.pre {X : Cx} {e : Stmt} {t : TS} {F : Hp → Prop} (h : PS X e t) (hF : ∀ pins s σ H, Inv X pins σ H s → F H) : PS X e (fun D σ H => F H → t D σ H) := ⟨fun pins s σ H D I q => h.run pins s σ H D I (q (hF pins s σ H I))⟩
theorem PE.pre {X : Cx} {e : Expr} {t : TE} {F : Hp → Prop} (h : PE X e t) (hF : ∀ pins s σ H, Inv X pins σ H s → F H) : PE X e (fun σ H Q => F H → t σ H Q) := ⟨fun pins s σ H Q I q => h.run pins s σ H Q I (q (hF pins s σ H I))⟩
theorem PS.or {X : Cx} {e : Stmt} {t u : TS} (h : PS X e t) (k : PS X e u) : PS X e (fun D σ H => t D σ H ∨ u D σ H) := ⟨fun pins s σ H D I q => q.elim (fun q => h.run pins s σ H D I q) fun q => k.run pins s σ H D I q⟩
theorem PE.or {X : Cx} {e : Expr} {t u : TE} (h : PE X e t) (k : PE X e u) : PE X e (fun σ H Q => t σ H Q ∨ u σ H Q) := ⟨fun pins s σ H Q I q => q.elim (fun q => h.run pins s σ H Q I q) fun q => k.run pins s σ H Q I q⟩
/-! ### for k in d -/
/-- no error leaves; what was locked is free again -/
def ResS.thaw (f : Sto → Sto) : ResS → ResS
  | .next ρ st => .next ρ (f st)
  | .ret v st => .ret v (f st)
  | _ => .stuck
noncomputable def mForD (i : Nat) (t : Tg) (body : MS) : MS := fun ρ st => match ρ[i]? with
  | some (some (.dic kvs)) => (loop t body none (keysW kvs).items ρ st).thaw id
  | some (some (.ref l)) => (match st[l]? with
    | some (.dic kvs) => (loop t body none (keysW kvs).items ρ (st.set l (.rod kvs))).thaw fun s => s.set l (.dic kvs)
    | _ => .stuck)
  | _ => .stuck
section
variable {X : Cx} {W : WX} {tg : Expr} {x : Str} {p pos : Pos} {body : List Stmt} {mb : MS} {t : Tg} {i : Nat}
theorem forD_core {hd μ : List Addr} {ρ : Rho} {st : Sto} {σ : St} {H : Hp} {D : Ends} {d : Addr} {od : Obj} {kvs : List (Key × V)} (S : Sim X.K X.mg hd μ ρ st σ H) (h : H d = some (.frz od (.dK kvs))) (z : kvs.length ≤ sizeLine) (hs : σ[i]? = some (some (.ref d)))
    (G : GoodS X.K X.mg hd W μ H (loop t mb none (keysW kvs).items ρ st) D) : tFor (iKeys (tVar i)) (TDG X.K X.mg t) (TDS X.K X.mg W mb) D σ H :=
  ⟨.ref d, hs, d, od, rfl, .inl ⟨kvs, h, loop_of (wk_keys h z) S G⟩⟩
theorem forD_lock {hd μ : List Addr} {H : Hp} {r : ResS} {D : Ends} {d : Addr} {kvs : List (Key × V)} (f : Sto → Sto) (od : Obj) (h : H d = some (.dK kvs))
    (hf : ∀ μ' st' H', Ext μ (upd H d (.frz od (.dK kvs))) μ' H' → H' d = some (.frz od (.dK kvs)) → StoOk X.K X.mg hd μ' st' H' → StoOk X.K X.mg hd μ' (f st') (upd H' d (.dK kvs)))
    (G : GoodS X.K X.mg hd W μ H (r.thaw f) D) :
    GoodS X.K X.mg hd W μ (upd H d (.frz od (.dK kvs))) r ⟨fun σ' H' => H' d = some (.frz od (.dK kvs)) ∧ D.nx σ' (upd H' d (.dK kvs)), fun v H' => H' d = some (.frz od (.dK kvs)) ∧ D.rt v (upd H' d (.dK kvs)), fun σ' H' => H' d = some (.frz od (.dK kvs)) ∧ D.bk σ' (upd H' d (.dK kvs)), fun σ' H' => H' d = some (.frz od (.dK kvs)) ∧ D.ct σ' (upd H' d (.dK kvs))⟩ := by
  cases r with
  | next ρ' st' =>
    intro μ' H' σ' e S
    obtain ⟨h1, e'⟩ := Ext.unlock h e
    exact ⟨h1, G μ' _ σ' e' (S.weak (weak_unlock h1) (hf μ' st' H' e h1 S.sto))⟩
  | ret v st' =>
    intro μ' H' x e o rx
    obtain ⟨h1, e'⟩ := Ext.unlock h e
    exact ⟨h1, G μ' _ x e' (hf μ' st' H' e h1 o) (Rep.weak (weak_unlock h1) _ _ rx)⟩
  | brk => exact G.elim
  | cnt => exact G.elim
  | exc => exact G.elim
  | stuck => exact G.elim
theorem thaw_id {hd μ : List Addr} {H : Hp} {r : ResS} {D : Ends} (G : GoodS X.K X.mg hd W μ H (r.thaw id) D) : GoodS X.K X.mg hd W μ H r D := by
  cases r with
  | next => exact G
  | ret => exact G
  | brk => exact G.elim
  | cnt => exact G.elim
  | exc => exact G.elim
  | stuck => exact G.elim
/-- a dict that is a value: free while it is none of the cells -/
theorem free_val {hd μ μ' : List Addr} {st' : Sto} {H H' : Hp} {d : Addr} {od : Obj} {kvs : List (Key × V)} (h : H d = some (.dK kvs)) (n : d ∉ μ) (e : Ext μ (upd H d (.frz od (.dK kvs))) μ' H') (h1 : H' d = some (.frz od (.dK kvs))) (o : StoOk X.K X.mg hd μ' st' H') : StoOk X.K X.mg hd μ' st' (upd H' d (.dK kvs)) :=
  o.weak (weak_unlock h1) fun a ha => upd_ne (by
    rintro rfl
    exact e.nin upd_same n ha)
theorem free_cell {hd μ μ' : List Addr} {st' : Sto} {l : Nat} {H H' : Hp} {d : Addr} {od : Obj} {kvs : List (Key × V)} (hl : μ[l]? = some d) (e : Ext μ (upd H d (.frz od (.dK kvs))) μ' H') (h1 : H' d = some (.frz od (.dK kvs))) (o : StoOk X.K X.mg hd μ' st' H') : StoOk X.K X.mg hd μ' (st'.set l (.dic kvs)) (upd H' d (.dK kvs)) :=
  o.weakAt (weak_unlock h1) (e.idx hl) (fun a _ z => upd_ne z) upd_same
theorem ds_forD (hp : PassesOwn (model X.prog X.w) X.A X.env X.xe) (hc : X.calm = true) (hn : PE X (.Name x p) (tVar i)) (hg : PG X tg (TDG X.K X.mg t)) (hb : PSs X body (TDS X.K X.mg W mb)) (hs : ∀ y, foldedSetIterable (.Name x p) X.env y = pure y := by intro _; rfl) :
    PS X (.For tg (.Name x p) body [] pos) (TDS X.K X.mg W (mForD i t mb)) := by
  have base := ps_for (pos := pos) hp hc (pi_keys hn) hg hb hs
  refine PS.imp (PS.pre (PS.or (ps_lock base) base) fun _ _ _ _ I => szD_of I) fun D σ H h z => ?_
  obtain ⟨hd, μ, ρ, st, S, G⟩ := TDS_def.mp h
  unfold mForD at G
  cases hv : ρ[i]? with
  | none => rw [hv] at G; exact G.elim
  | some ov =>
    cases ov with
    | none => rw [hv] at G; exact G.elim
    | some v =>
      rw [hv] at G
      obtain ⟨y, hs, ry⟩ := S.slot i v hv
      cases ry with
      | @dic d kvs h1 h2 h3 =>
        have hz := z _ _ h1
        rcases h1 with h1 | ⟨od, h1⟩
        · refine .inl ⟨d, _, h1, trivial, fun od => ?_⟩
          exact forD_core (S.weak (weak_lock od h1) (S.sto.weak (weak_lock od h1) fun a ha => upd_ne (by rintro rfl; exact h2 ha))) upd_same hz hs (forD_lock id od h1 (fun μ' st' H' e q o => free_val h1 h2 e q o) G)
        · exact .inr (forD_core S h1 hz hs (thaw_id G))
      | @ref l d hl =>
        dsimp only at G
        cases hc : st[l]? with
        | none => rw [hc] at G; exact G.elim
        | some c =>
          rw [hc] at G
          cases c with
          | dic kvs =>
            have h1 : H d = some (.dK kvs) := S.sto.cell l d _ hl hc
            have hz := z _ _ (.inl h1)
            refine .inl ⟨d, _, h1, trivial, fun od => ?_⟩
            exact forD_core (S.weak (weak_lock od h1) (S.sto.weakAt (c := .rod kvs) (weak_lock od h1) hl (fun a _ q => upd_ne q) (show Rd (upd H d (.frz od (.dK kvs))) d (.dK kvs) from Or.inr ⟨od, upd_same⟩))) upd_same hz hs (forD_lock _ od h1 (fun μ' st' H' e q o => free_cell hl e q o) G)
          | _ => exact G.elim
      | _ => exact G.elim
end
/-! ### [e for k in d if c] -/
def Res.thawC (f : Sto → Sto) : Res Cell → Res Cell
  | .ok c st => .ok c (f st)
  | _ => .stuck
noncomputable def mCompD (i : Nat) (t : Tg) (cond : MT) (elt : ME) (ws : List Nat) : MC := fun ρ st => match ρ[i]? with
  | some (some (.dic kvs)) => (mComp (fun _ s => .ok (keysW kvs) s) t cond elt ws ρ st).thawC id
  | some (some (.ref l)) => (match st[l]? with
    | some (.dic kvs) => (mComp (fun _ s => .ok (keysW kvs) s) t cond elt ws ρ (st.set l (.rod kvs))).thawC fun s => s.set l (.dic kvs)
    | _ => .stuck)
  | _ => .stuck
section
variable {X : Cx} {W : WX} {elt tg : Expr} {ifs : List Expr} {scope : Scope} {own : List (Str × Nat)} {pos p : Pos} {t : Tg} {mc : MT} {me : ME} {x : Str} {i : Nat} {ws : List Nat}
theorem compD_core {hd μ : List Addr} {ρ : Rho} {st : Sto} {σ : St} {H : Hp} {Q : VK} {d : Addr} {od : Obj} {kvs : List (Key × V)} (hp : ∀ i ∈ t.places, i ∈ ws) (S : Sim X.K X.mg hd μ ρ st σ H) (h : H d = some (.frz od (.dK kvs))) (z : kvs.length ≤ sizeLine) (hs : σ[i]? = some (some (.ref d)))
    (G : Good X.K X.mg hd μ H (mComp (fun _ s => .ok (keysW kvs) s) t mc me ws ρ st) (fun μ' st' H' c => ∀ a, H a = none → a ∉ μ' → a ∉ hd → CellOk X.K X.mg hd μ' H' a c → StoOk X.K X.mg hd (μ' ++ [a]) (st' ++ [c]) H' → Q (.ref a) H') (gW X.mg W σ)) :
    tLc (iKeys (tVar i)) (TDG X.K X.mg t) (TDT X.K X.mg W0 mc) (TD X.K X.mg W0 me) ws σ H Q := by
  have q := tLc_of (mi := fun _ s => .ok (keysW kvs) s) (W := W) hp (Q := Q) (σ := σ) (H := H) ⟨hd, μ, ρ, st, S, G⟩
  obtain ⟨hd2, μ2, ρ2, st2, S2, G2⟩ := q
  exact ⟨.ref d, hs, d, od, rfl, .inl ⟨kvs, h, G2 μ2 H Ext.refl S2.sto _ (wk_keys h z)⟩⟩
theorem compD_lock {hd μ : List Addr} {H : Hp} {σ : St} {r : Res Cell} {Q : VK} {d : Addr} {kvs : List (Key × V)} (f : Sto → Sto) (od : Obj) (h : H d = some (.dK kvs))
    (hf : ∀ μ' st' H', Ext μ (upd H d (.frz od (.dK kvs))) μ' H' → H' d = some (.frz od (.dK kvs)) → StoOk X.K X.mg hd μ' st' H' → StoOk X.K X.mg hd μ' (f st') (upd H' d (.dK kvs)))
    (hf2 : ∀ μ' st' H' a c, Ext μ (upd H d (.frz od (.dK kvs))) μ' H' → H' d = some (.frz od (.dK kvs)) → a ≠ d → StoOk X.K X.mg hd μ' st' H' → StoOk X.K X.mg hd (μ' ++ [a]) (st' ++ [c]) H' → StoOk X.K X.mg hd (μ' ++ [a]) (f st' ++ [c]) (upd H' d (.dK kvs)))
    (G : Good X.K X.mg hd μ H (r.thawC f) (fun μ' st' H' c => ∀ a, H a = none → a ∉ μ' → a ∉ hd → CellOk X.K X.mg hd μ' H' a c → StoOk X.K X.mg hd (μ' ++ [a]) (st' ++ [c]) H' → Q (.ref a) H') (gW X.mg W σ)) :
    Good X.K X.mg hd μ (upd H d (.frz od (.dK kvs))) r (fun μ' st' H' c => ∀ a, upd H d (.frz od (.dK kvs)) a = none → a ∉ μ' → a ∉ hd → CellOk X.K X.mg hd μ' H' a c → StoOk X.K X.mg hd (μ' ++ [a]) (st' ++ [c]) H' → H' d = some (.frz od (.dK kvs)) ∧ Q (.ref a) (upd H' d (.dK kvs))) (gW X.mg W σ) := by
  cases r with
  | ok c st' =>
    intro μ' H' e o a h0 h2 h3 k o2
    obtain ⟨h1, e'⟩ := Ext.unlock h e
    have z : a ≠ d := by rintro rfl; rw [upd_same] at h0; cases h0
    exact ⟨h1, G μ' _ e' (hf μ' st' H' e h1 o) a (by rw [upd_ne z] at h0; exact h0) h2 h3 (k.weak (weak_unlock h1) (upd_ne z)) (hf2 μ' st' H' a c e h1 z o o2)⟩
  | exc => exact G.elim
  | stuck => exact G.elim
theorem thawC_id {hd μ : List Addr} {H : Hp} {r : Res Cell} {f : List Addr → Sto → Hp → Cell → Prop} {g : Str → Hp → Prop} (G : Good X.K X.mg hd μ H (r.thawC id) f g) : Good X.K X.mg hd μ H r f g := by
  cases r with
  | ok => exact G
  | exc => exact G.elim
  | stuck => exact G.elim
theorem df_compD (hc : X.calm = true) (hN : X.N.Nodup) (hn : PE X (.Name x p) (tVar i)) (ok : BlkOk X.N X.env.scope scope own) (hp : ∀ i ∈ t.places, i ∈ own.map (·.2))
    (hg : ∀ (s : Shared) (H : Hp) (C : Addr) (cl : List (Str × Addr)) (fp : List Addr), PG (X.blk s H scope (compEnvC scope cl C X.env) fp) tg (TDG X.K X.mg t))
    (ht : ∀ (s : Shared) (H : Hp) (C : Addr) (cl : List (Str × Addr)) (fp : List Addr), PTs (X.blk s H scope (compEnvC scope cl C X.env) fp) ifs (TDT X.K X.mg W0 mc))
    (he : ∀ (s : Shared) (H : Hp) (C : Addr) (cl : List (Str × Addr)) (fp : List Addr), PE (X.blk s H scope (compEnvC scope cl C X.env) fp) elt (TD X.K X.mg W0 me)) (hs : ∀ y, foldedSetIterable (.Name x p) X.env y = pure y := by intro _; rfl) :
    PE X (.ListComp elt [⟨tg, .Name x p, ifs, 0⟩] scope pos) (TDF X.K X.mg W (mCompD i t mc me (own.map (·.2)))) := by
  have base := pe_lc (pos := pos) hc hN (pi_keys hn) ok hg ht he hs
  refine PE.imp (PE.pre (PE.or (pe_lock base) base) fun _ _ _ _ I => szD_of I) fun σ H Q ⟨hd, μ, ρ, st, S, G⟩ z => ?_
  unfold mCompD at G
  cases hv : ρ[i]? with
  | none => rw [hv] at G; exact G.elim
  | some ov =>
    cases ov with
    | none => rw [hv] at G; exact G.elim
    | some v =>
      rw [hv] at G
      obtain ⟨y, hs, ry⟩ := S.slot i v hv
      cases ry with
      | @dic d kvs h1 h2 h3 =>
        have hz := z _ _ h1
        rcases h1 with h1 | ⟨od, h1⟩
        · refine .inl ⟨d, _, h1, trivial, fun od => ?_⟩
          refine compD_core (W := W) hp (S.weak (weak_lock od h1) (S.sto.weak (weak_lock od h1) fun a ha => upd_ne (by rintro rfl; exact h2 ha))) upd_same hz hs (compD_lock id od h1 (fun μ' st' H' e q o => free_val h1 h2 e q o) (fun μ' st' H' a c e q na o o2 => ?_) G)
          refine o2.weak (weak_unlock q) fun b hb => upd_ne ?_
          rintro rfl
          rw [List.mem_append, List.mem_singleton] at hb
          rcases hb with hb | rfl
          · exact e.nin upd_same h2 hb
          · exact na rfl
        · exact .inr (compD_core (W := W) hp S h1 hz hs (thawC_id G))
      | @ref l d hl =>
        dsimp only at G
        cases hcc : st[l]? with
        | none => rw [hcc] at G; exact G.elim
        | some c =>
          rw [hcc] at G
          cases c with
          | dic kvs =>
            have h1 : H d = some (.dK kvs) := S.sto.cell l d _ hl hcc
            have hz := z _ _ (.inl h1)
            refine .inl ⟨d, _, h1, trivial, fun od => ?_⟩
            refine compD_core (W := W) hp (S.weak (weak_lock od h1) (S.sto.weakAt (c := .rod kvs) (weak_lock od h1) hl (fun a _ q => upd_ne q) (show Rd (upd H d (.frz od (.dK kvs))) d (.dK kvs) from Or.inr ⟨od, upd_same⟩))) upd_same hz hs (compD_lock _ od h1 (fun μ' st' H' e q o => free_cell hl e q o) (fun μ' st' H' a c e q na o o2 => ?_) G)
            have hl' := e.idx hl
            have hlt : l < st'.length := by rw [← o.len]; exact (List.getElem?_eq_some_iff.mp hl').1
            rw [← List.set_append_left _ _ hlt]
            refine o2.weakAt (weak_unlock q) ?_ (fun b _ zb => upd_ne zb) upd_same
            rw [List.getElem?_append_left (List.getElem?_eq_some_iff.mp hl').1]
            exact hl'
          | _ => exact G.elim
      | _ => exact G.elim
end
end DL

namespace DL
open PySem PySem.Spec PyProof.Rows L2
/-! ### {i: j} -/
def mD1 (i j : Int) : MC := fun _ st => .ok (.dic [(.inl i, .int j)]) st
theorem df_d1 {X : Cx} {W : WX} {pos p1 p2 : Pos} {i j : Int} {k1 k2 : Nat} : PE X (.Dict [some (.Constant (.int i) k1 p1)] [.Constant (.int j) k2 p2] pos) (TDF X.K X.mg W (mD1 i j)) :=
  PE.imp (pe_disp (pps_cons pe_int pe_int pps_nil) rfl rfl (by simp) (by simp)) fun σ H Q ⟨hd, μ, ρ, st, S, G⟩ p hp => by
    have o := S.sto
    refine ⟨upd_same, [(.inl i, .int j)], rfl, by simp, ?_⟩
    have e : mergeK [] [((.inl i : Key), V.int j)] = [(.inl i, .int j)] := rfl
    rw [e, upd_upd]
    exact G μ _ (Ext.obj hp) (o.obj hp) p hp (nin_of o hp) (nhid_of o hp) (show CellOk X.K X.mg hd μ (upd H p (.dK [(.inl i, .int j)])) p (.dic [(.inl i, .int j)]) from upd_same) (o.new hp (show CellOk X.K X.mg hd (μ ++ [p]) (upd H p (.dK [(.inl i, .int j)])) p (.dic [(.inl i, .int j)]) from upd_same))
/-! ### max, min of whole numbers -/
def maxI : List Int → Int
  | [] => 0
  | n :: r => r.foldl max n
def minI : List Int → Int
  | [] => 0
  | n :: r => r.foldl min n
def maxG (v : Val) (st : Sto) : Option Val := match (seqOf v st).bind intsOf with
  | some (n :: r) => some (.int (maxI (n :: r)))
  | _ => none
def minG (v : Val) (st : Sto) : Option Val := match (seqOf v st).bind intsOf with
  | some (n :: r) => some (.int (minI (n :: r)))
  | _ => none
theorem hold_ints {h : Heap} {us : List Value} {ns : List Int} (hi : IntsAre us ns) : ∃ as, ReadsAll h us (ns.map PyData.int) as := PySem.W.HoldAll.of_ints hi
theorem alike_of_ints (ns : List Int) : PySem.W.AlikeAll (ns.map PyData.int) := ⟨fun x hx y hy => by
  obtain ⟨a, _, rfl⟩ := List.mem_map.mp hx
  obtain ⟨b, _, rfl⟩ := List.mem_map.mp hy
  simp [PySem.W.alike], fun x hx => by
  obtain ⟨a, _, rfl⟩ := List.mem_map.mp hx
  simp⟩
theorem of_int {h : Heap} {v : Value} {i : Int} {bs : List Addr} (r : Reads h v (.int i) bs) : RelV (.int i) v := by
  cases r
  exact ⟨_, rfl⟩
theorem max_ok {X : Cx} (hc : X.calm = true) (hu : X.A.units + 64 < cLine) : CallD X (.builtin "max") (lift1 maxG) := call1 lift1_of fun pins s σ H x u Q hd μ st v r I ru o r1 g q => by
  unfold maxG at g
  cases hs : seqOf v st with
  | none => rw [hs] at g; cases g
  | some vs =>
    rw [hs] at g
    simp only [Option.bind] at g
    cases hb : intsOf vs with
    | none => rw [hb] at g; cases g
    | some bs =>
      rw [hb] at g
      cases bs with
      | nil => cases g
      | cons n rs =>
        cases g
        obtain ⟨a, xs, rfl, h1, h2⟩ := seqOf_at o r1 hs
        rw [intsOf_eq hb] at h2
        rw [h2.ints] at h1
        cases ru
        have dz : X.A.units + 1 + PyData.depthAll ((n :: rs).map PyData.int) < cLine := by rw [PySem.W.depth_ints]; omega
        rcases h1 with h1 | h1
        · obtain ⟨its, rv, hl, _⟩ := I.list h1
          obtain ⟨as, hr⟩ := hold_ints (h := s.heap) rv.ints
          refine PySem.W.max_list_data (x := .int n) (xs := rs.map PyData.int) (I.ok.hd hc) hl.isList (by simpa using hr) (alike_of_ints (n :: rs)) dz fun i v h' tk bs' _ hm hk => ?_
          rw [PySem.W.maxD_ints] at hm
          exact ⟨.int (maxI (n :: rs)), H, I.kept hk, of_int hm, q μ H _ Ext.refl o (.int _)⟩
        · obtain ⟨its, rv, hl, _⟩ := I.tuple h1
          obtain ⟨as, hr⟩ := hold_ints (h := s.heap) rv.ints
          refine PySem.W.max_tuple_data (x := .int n) (xs := rs.map PyData.int) (I.ok.hd hc) hl (by simpa using hr) (alike_of_ints (n :: rs)) dz fun i v h' tk bs' _ hm hk => ?_
          rw [PySem.W.maxD_ints] at hm
          exact ⟨.int (maxI (n :: rs)), H, I.kept hk, of_int hm, q μ H _ Ext.refl o (.int _)⟩
theorem min_ok {X : Cx} (hc : X.calm = true) (hu : X.A.units + 64 < cLine) : CallD X (.builtin "min") (lift1 minG) := call1 lift1_of fun pins s σ H x u Q hd μ st v r I ru o r1 g q => by
  unfold minG at g
  cases hs : seqOf v st with
  | none => rw [hs] at g; cases g
  | some vs =>
    rw [hs] at g
    simp only [Option.bind] at g
    cases hb : intsOf vs with
    | none => rw [hb] at g; cases g
    | some bs =>
      rw [hb] at g
      cases bs with
      | nil => cases g
      | cons n rs =>
        cases g
        obtain ⟨a, xs, rfl, h1, h2⟩ := seqOf_at o r1 hs
        rw [intsOf_eq hb] at h2
        rw [h2.ints] at h1
        cases ru
        have dz : X.A.units + 1 + PyData.depthAll ((n :: rs).map PyData.int) < cLine := by rw [PySem.W.depth_ints]; omega
        rcases h1 with h1 | h1
        · obtain ⟨its, rv, hl, _⟩ := I.list h1
          obtain ⟨as, hr⟩ := hold_ints (h := s.heap) rv.ints
          refine PySem.W.min_list_data (x := .int n) (xs := rs.map PyData.int) (I.ok.hd hc) hl.isList (by simpa using hr) (alike_of_ints (n :: rs)) dz fun i v h' tk bs' _ hm hk => ?_
          rw [PySem.W.minD_ints] at hm
          exact ⟨.int (minI (n :: rs)), H, I.kept hk, of_int hm, q μ H _ Ext.refl o (.int _)⟩
        · obtain ⟨its, rv, hl, _⟩ := I.tuple h1
          obtain ⟨as, hr⟩ := hold_ints (h := s.heap) rv.ints
          refine PySem.W.min_tuple_data (x := .int n) (xs := rs.map PyData.int) (I.ok.hd hc) hl (by simpa using hr) (alike_of_ints (n :: rs)) dz fun i v h' tk bs' _ hm hk => ?_
          rw [PySem.W.minD_ints] at hm
          exact ⟨.int (minI (n :: rs)), H, I.kept hk, of_int hm, q μ H _ Ext.refl o (.int _)⟩
end DL

namespace DL
open PySem PySem.Spec PySem.W PySem.Calls PyProof.Rows
section
variable {prog : Program} {w : World} {A : Around} {E : Value → Shared → Prop} {s : Shared} {β : Type} {bs : List β} {enc : β → PyData} {R : Heap → List Value → Value → β → Prop}
/-- sorted(x), x what is collected into things that are made meanwhile -/
theorem sorted_dep {v : Value} {Q : Value → Shared → Prop} {Cn : Heap → List Value → Prop}
    (hcol : ∀ (A' : Around) (E' : Value → Shared → Prop) (Q' : List Value → Shared → Prop), A'.handled = A.handled → (∀ h' t' vs, (∀ b o, s.heap.get? b = some o → h'.get? b = some o) → Cn h' vs → Q' vs { s with heap := h', toks := t' }) → wpAny (model prog w) A' (collect v) Q' E' s)
    (hC : ∀ h' vs, Cn h' vs → EachIs (R h' vs) vs bs ∧ EachIs (fun v b => ∃ as, Reads h' v (enc b) as) vs bs) (hal : AllAlike (bs.map enc)) (hk : Sortable (bs.map enc)) (hL : bs.length ≤ sizeLine)
    (hu : ∀ b, b ∈ bs → A.units + 2 + (enc b).depth < cLine)
    (h : ∀ h1 vs p out h' t', Cn h1 vs → (∀ b o, s.heap.get? b = some o → h1.get? b = some o) → h1.objs.size = p → (∀ b o, h1.get? b = some o → h'.get? b = some o) → (∃ n, h'.get? p = some { cls := .type "list", data := .seq out.toArray n }) → out.length = bs.length → EachIs (R h1 vs) out (bs.mergeSort (dataLe false enc)) → Q (.ref p) { s with heap := h', toks := t' })
    (hh : A.in1.handled = A.handled := by rfl) : wpAny (model prog w) A (call (.builtin "sorted") [v]) Q E s := by
  refine call_function_entry_kw kind_sorted plain_sorted entry_sorted (args_sorted1 _) ?_
  unfold Builtin.«sorted»
  refine wpAny_bind (m := checkCount "sorted" 1 1 _) (wpAny_pure ?_)
  refine wpAny_bind (hcol _ _ _ hh fun h1 t1 vs k1 cn => ?_)
  obtain ⟨e, er⟩ := hC h1 vs cn
  have hLv : vs.length ≤ sizeLine := by rw [e.length]; exact hL
  refine wpAny_bind (wpAny_newList ?_ hLv)
  have ho : (h1.push (seqObj "list" vs.toArray 0)).get? h1.objs.size = some (seqObj "list" vs.toArray 0) := Heap.get?_push_size _ rfl
  have hold : ∀ b o, h1.get? b = some o → b ≠ h1.objs.size := fun b o q => Nat.ne_of_lt (Heap.lt_size q)
  refine wpAny_bind (wpAny_holding (wpAny_call_entry_kw slot_list_sort ⟨_, ho, rfl⟩ entry_list_sort ?body (args_list_sort _)))
  case body =>
    have er' : EachIs (fun v b => ∃ as, Reads (sortingHeap (h1.push (seqObj "list" vs.toArray 0)) h1.objs.size vs) v (enc b) as) vs bs := er.mono fun _ _ ⟨as, r⟩ => ⟨as, PyProof.Rows.Reads.keeps (fun b o q => sortingHeap_old (hold b o q) (Heap.get?_push_of_some _ q)) r⟩
    refine list_sort_vals (s := { s with heap := h1.push (seqObj "list" vs.toArray 0), toks := t1 }) ho (SortsAt.data (s := { s with heap := sortingHeap (h1.push (seqObj "list" vs.toArray 0)) h1.objs.size vs, toks := t1 }) (each_map (R := fun v d => ∃ as, Reads (sortingHeap (h1.push (seqObj "list" vs.toArray 0)) h1.objs.size vs) v d as) enc er') hal hk (bound_map hu)) hLv ?_
    refine ⟨_, rfl, wpAny_pure ⟨_, rfl, ?_⟩⟩
    refine h h1 vs _ _ _ _ cn k1 rfl ?_ (sortedHeap_at ho) (by rw [sortVals_length false rfl]; exact e.length) (sortVals_data false e er' hal)
    intro b o q
    rw [sortedHeap_old (hold b o q) (Nat.lt_of_lt_of_le (Heap.lt_size q) (by rw [size_push']; exact Nat.le_succ _))]
    exact Heap.get?_push_of_some _ q
end
end DL
namespace DL
open PySem PySem.Spec PyProof.Rows L2 LiI
/-! ### sorted(d.items()) -/
def pairV (kv : Key × V) : Option Val := (ofV kv.2).map fun u => .tup [keyV kv.1, u]
def pairsV : List (Key × V) → Option (List Val)
  | [] => some []
  | kv :: kvs => match pairV kv, pairsV kvs with
    | some p, some ps => some (p :: ps)
    | _, _ => none
theorem pairsV_len : ∀ {kvs : List (Key × V)} {ps : List Val}, pairsV kvs = some ps → ps.length = kvs.length
  | [], _, h => by cases h; rfl
  | kv :: kvs, _, h => by
    simp only [pairsV] at h
    split at h
    · rename_i p ps e1 e2
      cases h
      rw [List.length_cons, List.length_cons, pairsV_len e2]
    · cases h
theorem pairsV_at : ∀ {kvs : List (Key × V)} {ps : List Val}, pairsV kvs = some ps → ∀ {j : Nat} {kv : Key × V}, kvs[j]? = some kv → ∃ u, ofV kv.2 = some u ∧ ps[j]? = some (.tup [keyV kv.1, u])
  | [], _, _, j, kv, e => by simp at e
  | p :: kvs, _, h, j, kv, e => by
    simp only [pairsV] at h
    split at h
    · rename_i q ps e1 e2
      cases h
      cases j with
      | zero =>
        simp at e
        subst e
        unfold pairV at e1
        cases hu : ofV p.2 with
        | none => rw [hu] at e1; cases e1
        | some u =>
          rw [hu] at e1
          cases e1
          exact ⟨u, rfl, rfl⟩
      | succ j =>
        obtain ⟨u, h1, h2⟩ := pairsV_at e2 (j := j) (kv := kv) (by simpa using e)
        exact ⟨u, h1, by simpa using h2⟩
    · cases h
open Classical in
noncomputable def sortItF (v : Val) (st : Sto) : Res Val := match (dictOf v st).bind pairsV with
  | some ps => if SortOk ps then .ok (.lst (sortV ps)) st else .stuck
  | none => .stuck
theorem reads_flat {h : Heap} {x : V} {u : Val} {y : Value} (hu : ofV x = some u) (r : RelV x y) : ∃ d, u.data = some d ∧ Reads h y d [] := by
  cases x <;> cases hu
  · cases r; exact ⟨_, rfl, .none⟩
  · cases r; exact ⟨_, rfl, .bool _⟩
  · obtain ⟨t, rfl⟩ := r; exact ⟨_, rfl, .int _ _⟩
  · obtain ⟨t, rfl⟩ := r; exact ⟨_, rfl, .str _ _⟩
theorem reads_keyV {h : Heap} {k : Key} {y : Value} (r : RelV (kV k) y) : ∃ d, (keyV k).data = some d ∧ Reads h y d [] := by
  cases k
  · obtain ⟨t, rfl⟩ := r; exact ⟨_, rfl, .int _ _⟩
  · obtain ⟨t, rfl⟩ := r; exact ⟨_, rfl, .str _ _⟩
theorem stands {P : Program} {w : World} {H : Hp} {h : Heap} {a : Addr} {u : HO} (x : ObjOk P w H h a u) : ∃ o, h.get? a = some o := by
  cases u with
  | lst xs => exact ⟨_, x.2.choose_spec.choose_spec.2⟩
  | tup xs => obtain ⟨_, _, _, o, e, _⟩ := x; exact ⟨o, e⟩
  | dK kvs => obtain ⟨_, _, _, _, o, _, _, e, _⟩ := x; exact ⟨o, e⟩
  | dT kvs => obtain ⟨_, _, _, _, o, _, _, e, _⟩ := x; exact ⟨o, e⟩
  | set S n => obtain ⟨o, _, _, _, e, _⟩ := x; exact ⟨o, e⟩
  | ins C dx fs => obtain ⟨_, _, _, e, _⟩ := x; exact ⟨_, e⟩
  | own y => exact x
  | xd fs => obtain ⟨_, ⟨_, _, _, e, _⟩, _⟩ := x; exact ⟨_, e⟩
  | rng lo hi => obtain ⟨_, _, _, e⟩ := x; exact ⟨_, e⟩
  | frz ob v => exact ⟨_, x.1⟩
  | tbl ps => exact ⟨_, x⟩
  | met f y => exact ⟨_, x⟩
  | ext φ => exact x.2.1
/-- the pairs that were made, and the list of them, tracked -/
theorem pairs_laid {X : Cx} {pins : List (Addr × Obj)} {σ : L2.St} {H : Hp} {s : Shared} {h' : Heap} {tk : Nat} {kvs : List (Key × V)} {us : List (Key × Value)} {as os : List Addr} {p : Addr} {n : Nat} (I : Inv X pins σ H s) (hz : os.length ≤ sizeLine) (hkv : KV kvs us)
    (hk : ∀ b o, s.heap.get? b = some o → h'.get? b = some o) (hS : h'.get? p = some { cls := .type "list", data := .seq (os.map Value.ref).toArray n }) (hl : as.length = us.length) (nd : as.Nodup) (fr : ∀ a ∈ as, s.heap.get? a = none) (fp : s.heap.get? p = none) (hpa : p ∉ as)
    (hP : ∀ (j : Nat) (a : Addr), as[j]? = some a → ∃ key k x, us[j]? = some (k, x) ∧ RelV (kV k) key ∧ h'.get? a = some { cls := .type "tuple", data := .seq #[key, x] }) :
    ∃ H' : Hp, (∀ b o, H b = some o → H' b = some o) ∧ H p = none ∧ H' p = some (.lst (os.map V.ref)) ∧ Paired (fun (t : Addr) (q : Key × V) => H' t = some (.tup [kV q.1, q.2])) as kvs ∧ Inv X pins σ H' { s with heap := h', toks := tk } := by
  have len := Paired.length hkv
  have non : ∀ b, s.heap.get? b = none → H b = none := fun b e => by
    cases q : H b with
    | none => rfl
    | some u =>
      obtain ⟨o, ho⟩ := stands (I.hok b u q)
      rw [e] at ho
      cases ho
  have new : ∀ t ∈ as, H t = none := fun t ht => non t (fr t ht)
  have newp := non p fp
  have atP := putT_at as kvs (upd H p (.lst (os.map V.ref))) (by omega) nd
  have off : ∀ b, b ∉ as → b ≠ p → putT (upd H p (.lst (os.map V.ref))) as kvs b = H b := fun b h1 h2 => by rw [putT_off as kvs _ h1, upd_ne h2]
  have kp : ∀ b u, H b = some u → (putT (upd H p (.lst (os.map V.ref))) as kvs) b = some u := fun b u e => by
    rw [off b (fun z => by rw [new b z] at e; cases e) (fun z => by rw [z, newp] at e; cases e)]
    exact e
  have eS : putT (upd H p (.lst (os.map V.ref))) as kvs p = some (.lst (os.map V.ref)) := by rw [putT_off as kvs _ hpa, upd_same]
  refine ⟨putT (upd H p (.lst (os.map V.ref))) as kvs, kp, newp, eS, atP, ?_⟩
  refine I.call' (ch := []) rfl ⟨fun b o q _ _ _ => hk b o q, fun b o q _ _ _ => ⟨o.slots, hk b o q⟩, fun b o q m _ => ?_, fun b o q _ => ⟨o, hk b o q⟩, fun b xs q => kp b _ q, fun b o u q => kp b _ q, fun b ps q => ⟨#[], by rw [kp b _ q]; simp⟩⟩ (fun b u q => ?_) I.bare fun b z => by simp at z
  · rw [off b (fun z => by rw [fr b z] at q; cases q) (fun z => by rw [z, fp] at q; cases q)]
    exact m
  · by_cases hb : b ∈ as
    · obtain ⟨j, pk, e1, e2, e3⟩ := LiI.paired_ix atP hb
      rw [e3] at q
      cases q
      obtain ⟨key, k, x, f1, f2, f3⟩ := hP j b e1
      obtain ⟨qv, g1, g2, g3⟩ := LiI.paired_get hkv e2
      rw [f1] at g1
      cases g1
      have g2' : pk.1 = k := g2
      exact ⟨by show 2 ≤ sizeLine; decide, [key, x], .cons (by rw [g2']; exact f2) (.cons g3 .nil), ⟨_, f3, rfl, _, rfl⟩⟩
    · by_cases hb2 : b = p
      · rw [hb2] at q ⊢
        rw [eS] at q
        cases q
        exact ⟨by rw [List.length_map]; exact hz, os.map Value.ref, n, LiI.vals_refs os, hS⟩
      · rw [off b hb hb2] at q
        exact (I.hok b u q).stay (fun d v _ y => hk d v y) (fun d y => kp d _ y) fun d xs y => kp d _ y
/-- what is collected of d.items() -/
def Pairs (P : Program) (w : World) (h0 : Heap) (us : List (Key × Value)) (h : Heap) (vs : List Value) : Prop := ∃ as : List Addr, vs = as.map Value.ref ∧ as.length = us.length ∧ PySem.W.KdxG (mixKind P w) us h0.objs.size h as
/-- which pair a value is -/
def PairAt (h : Heap) (vs : List Value) (ps : List Val) (u : Value) (b : Val) : Prop := ∃ (j : Nat) (a : Addr), vs[j]? = some (.ref a) ∧ u = .ref a ∧ ps[j]? = some b
theorem eachIs_of {α β : Type} {R : α → β → Prop} : ∀ {xs : List α} {ys : List β}, xs.length = ys.length → (∀ (j : Nat) (x : α) (y : β), xs[j]? = some x → ys[j]? = some y → R x y) → PySem.W.EachIs R xs ys
  | [], [], _, _ => .nil
  | x :: xs, y :: ys, h, k => .cons (k 0 x y rfl rfl) (eachIs_of (by simpa using h) fun j a b e1 e2 => k (j + 1) a b (by simpa using e1) (by simpa using e2))
  | [], _ :: _, h, _ => by simp at h
  | _ :: _, [], h, _ => by simp at h
theorem reps_of {K : PySem.W.Frag} {mg : Str → Option Value} {hd μ : List Addr} {H' : Hp} {h : Heap} {as : List Addr} {kvs : List (Key × V)} {ps : List Val} (hps : pairsV kvs = some ps) (hP : Paired (fun (t : Addr) (q : Key × V) => H' t = some (.tup [kV q.1, q.2])) as kvs) :
    ∀ {us : List Value} {bs : List Val}, PySem.W.EachIs (PairAt h (as.map Value.ref) ps) us bs → ∃ os : List Addr, us = os.map Value.ref ∧ RepL K mg hd μ H' bs (os.map V.ref)
  | _, _, .nil => ⟨[], rfl, .nil⟩
  | _, _, .cons ⟨j, a, h1, h2, h3⟩ r => by
    obtain ⟨os, e, rr⟩ := reps_of hps hP r
    have ha : as[j]? = some a := by
      rw [List.getElem?_map] at h1
      cases q : as[j]? with
      | none => rw [q] at h1; cases h1
      | some b => rw [q] at h1; cases h1; rfl
    obtain ⟨kv, g1, g2⟩ := LiI.paired_get hP ha
    obtain ⟨u, g3, g4⟩ := pairsV_at hps g1
    rw [h3] at g4
    cases g4
    exact ⟨a :: os, by rw [h2, e]; rfl, .cons (.tup (SqT.of g2) (.cons (rep_keyV kv.1) (.cons (rep_ofV g3) .nil))) rr⟩
theorem StoOk.grow {K : PySem.W.Frag} {mg : Str → Option Value} {hd μ : List Addr} {st : Sto} {H H' : Hp} (o : StoOk K mg hd μ st H) (k : ∀ b u, H b = some u → H' b = some u) : Ext μ H μ H' ∧ StoOk K mg hd μ st H' := by
  have e : Ext μ H μ H' := ⟨⟨[], by simp⟩, fun a u h _ => k a u h, fun a xs h => h.imp (fun h => k _ _ h) fun ⟨q, h⟩ => ⟨q, k _ _ h⟩, fun a q u h => k _ _ h, fun a h n => absurd h n⟩
  exact ⟨e, o.len, o.nd, fun l a c h1 h2 => (o.cell l a c h1 h2).ext e fun u hu => k _ _ hu, fun b hb => by
    obtain ⟨h1, u, h2⟩ := o.hid b hb
    exact ⟨h1, u, k _ _ h2⟩⟩
section
variable {X : Cx} {W : WX} {e : Expr} {m : ME} {x : Str} {p apos cpos pos : Pos}
theorem d_sortItems (hc : X.calm = true) (hu : X.A.units + 64 < cLine) (he : PE X e (TD X.K X.mg W m)) (hg : Gl X x) (hm : X.mg x = none) (hv : bootBuiltins x = some (.builtin "sorted")) (hn : x ≠ "__name__" := by decide) (hdb : (x == ("__debug__" : Str)) = false := by decide)
    (hbase : attributeBase e "items" X.env (eval e X.env) = eval e X.env := by rfl) (hline : (apos.endLine == cpos.line) = true := by rfl)
    (hs : starEach [.Call (.Attribute e "items" apos) [] [] cpos] X.env = (false, eval (.Call (.Attribute e "items" apos) [] [] cpos) X.env) :: starEach [] X.env := by rfl) :
    PE X (.Call (.Name x p) [.Call (.Attribute e "items" apos) [] [] cpos] [] pos) (TD X.K X.mg W (mUn sortItF m)) := by
  refine ⟨fun pins s σ H Q I ⟨hd, μ, ρ, st, S, G⟩ => ?_⟩
  refine wpAny_Call_Name_kw (ld_blt I hg hm hv ?_ hn hdb)
  refine PyProof.Rows.callWith_builtin1 ?_ hs rfl
  rw [hs]
  show wpAny _ _ (spliced ((false, eval (.Call (.Attribute e "items" apos) [] [] cpos) X.env) :: backTo pos (starEach [] X.env))) _ _ s
  refine Calls.spliced_cons ?_
  refine wpAny_Call_method (T := "dict") (id := "dict.items") hbase rfl hline F.plainAttrs_dict F.slot_dict_items F.type_dict_items (thn (he.run pins s σ H (fun y H' => ∃ μ' st' v, StoOk X.K X.mg hd μ' st' H' ∧ Rep X.K X.mg hd μ' H' v y ∧
    Good X.K X.mg hd μ' H' (sortItF v st') (fun μ' _ H' v => ∀ x, Rep X.K X.mg hd μ' H' v x → Q x H') (gW X.mg W σ)) I ⟨hd, μ, ρ, st, S, Good.imp (Good.bind G) (fun μ' st' H' v e o k y ry => ⟨μ', st', v, o, ry, k⟩) fun _ _ h => h⟩) fun y s1 hy => ?_)
  obtain ⟨xv, H1, I1, rx, μ1, st1, v, o1, rv, G1⟩ := hy
  unfold sortItF at G1
  cases hq : dictOf v st1 with
  | none => rw [hq] at G1; exact G1.elim
  | some kvs =>
    cases hps : pairsV kvs with
    | none => simp only [hq, Option.bind, hps] at G1; exact G1.elim
    | some ps =>
      simp only [hq, Option.bind, hps] at G1
      by_cases hso : SortOk ps
      · rw [if_pos hso] at G1
        obtain ⟨d, rfl, rd⟩ := dictOf_at o1 rv hq
        obtain rfl : y = Value.ref d := rx
        obtain ⟨hz, hs0, us, hkv, hdo⟩ := rd.ok I1.hok
        obtain ⟨ep, hat⟩ := hdo.dictAt
        have lenk := Paired.length hkv
        have lenp := pairsV_len hps
        have I2 : Inv X pins σ H1 { s1 with heap := s1.heap.push { cls := .type "dict_items", data := .fields #[.ref d] } } := I1.kept (t' := s1.toks) fun b ob q => Heap.get?_push_of_some _ q
        refine ⟨hdo.typeIs, hdo.mapOf.noDict, ?_⟩
        show wpAny _ _ (callWith cpos (.builtin "dict.items") [.ref d] [] []) _ X.xe s1
        refine method_meetsIn F.slot_dict_items F.entry_dict_items rfl (PySem.evalArgs_none ⟨rfl, hdo.typeIs, F.args_dict_items_1 _, _, meets_dict_items (mixKind X.prog X.w) d hs0, ⟨us, hdo⟩, ?_⟩)
        refine Calls.spliced_nil ?_
        obtain ⟨ds, hd1, hd2, hd3, hd4⟩ := hso
        obtain ⟨rfl, hd5⟩ := datas_map hd1
        generalize hS : ({ s1 with heap := s1.heap.push { cls := .type "dict_items", data := .fields #[.ref d] } } : Shared) = s2 at I2
        have hview : s2.heap.IsItemsView s1.heap.objs.size d := by
          rw [← hS]
          exact ⟨_, Heap.get?_push_size _ rfl, rfl, rfl⟩
        have hat2 : s2.heap.DictAt (mixKind X.prog X.w) d us ep := by
          rw [← hS]
          exact hat.push _
        refine sorted_dep (s := s2) (bs := ps) (enc := Val.enc) (R := fun h vs u b => PairAt h vs ps u b) (Cn := Pairs X.prog X.w s2.heap us)
          (fun A' E' Q' ha hq' => PySem.W.kdx_collect (knd := mixKind X.prog X.w) (kvs := us) (ep := ep) (ha.trans (I1.ok.hd hc)) hview hat2 (by omega) fun h' tk as hk hl hG => hq' h' tk _ hk ⟨as, rfl, hl, hG⟩) ?_ hd2 hd3 (by omega) (fun b hb => ?_) ?_
        · rintro h' vs ⟨as, rfl, hl, hG⟩
          have ix : ∀ (j : Nat) (u : Value), (as.map Value.ref)[j]? = some u → ∃ a, as[j]? = some a ∧ u = .ref a := fun j u e => by
            rw [List.getElem?_map] at e
            cases q : as[j]? with
            | none => rw [q] at e; cases e
            | some a => rw [q] at e; cases e; exact ⟨a, rfl, rfl⟩
          have ll : (as.map Value.ref).length = ps.length := by rw [List.length_map]; omega
          refine ⟨eachIs_of ll fun j u b e1 e2 => ?_, eachIs_of ll fun j u b e1 e2 => ?_⟩
          · obtain ⟨a, _, rfl⟩ := ix j u e1
            exact ⟨j, a, e1, rfl, e2⟩
          · obtain ⟨a, ea, rfl⟩ := ix j u e1
            obtain ⟨key, k, x, f1, f2, f3⟩ := hG.pairs j a ea
            have hj : j < kvs.length := by rw [lenk]; exact (List.getElem?_eq_some_iff.mp f1).1
            obtain ⟨qv, g1, g2, g3⟩ := LiI.paired_get hkv (List.getElem?_eq_getElem hj)
            rw [f1] at g1
            cases g1
            obtain ⟨z, z1, z2⟩ := pairsV_at hps (List.getElem?_eq_getElem hj)
            rw [e2] at z2
            cases z2
            have rk : RelV (kV kvs[j].1) key := by
              have : kvs[j].1 = k := g2
              rw [this]
              exact relV_key (show keyIs k key = true from f2)
            obtain ⟨d1, w1, w2⟩ := reads_keyV (h := h') rk
            obtain ⟨d2, w3, w4⟩ := reads_flat (h := h') z1 g3
            have en : Val.enc (.tup [keyV kvs[j].1, z]) = .tuple [d1, d2] := by simp [Val.enc, Val.data, Val.datas, w1, w3]
            rw [en]
            exact ⟨_, .tuple f3 rfl rfl (.cons w2 (.cons w4 .nil))⟩
        · have := hd4 _ (List.mem_map_of_mem hb)
          omega
        · rintro h1 vs p' out h' t' ⟨as, rfl, hl, hG⟩ hk1 hp' hk2 ⟨n, ho⟩ hlen he'
          have outs : ∀ {us : List Value} {bs : List Val}, PySem.W.EachIs (PairAt h1 (as.map Value.ref) ps) us bs → ∃ os : List Addr, us = os.map Value.ref := by
            intro us bs r
            induction r with
            | nil => exact ⟨[], rfl⟩
            | cons h _ ih =>
              obtain ⟨j, a, _, rfl, _⟩ := h
              obtain ⟨os, rfl⟩ := ih
              exact ⟨a :: os, rfl⟩
          obtain ⟨os, rfl⟩ := outs he'
          rw [List.length_map] at hlen
          have nd : as.Nodup := hG.rise.imp fun h => Nat.ne_of_lt h
          obtain ⟨H', c1, c2, c3, c4, J⟩ := pairs_laid (p := p') (n := n) (tk := t') (os := os) (as := as) I2 (by omega) hkv (fun b o q => hk2 b o (hk1 b o q)) ho hl nd
            (fun a ha => by
              cases q : s2.heap.get? a with
              | none => rfl
              | some o => exact absurd (hG.above a ha) (Nat.not_lt.mpr (Nat.le_of_lt (Heap.lt_size q))))
            (by
              cases q : s2.heap.get? p' with
              | none => rfl
              | some o =>
                have := Heap.lt_size (hk1 _ _ q)
                rw [← hp'] at this
                exact absurd this (Nat.lt_irrefl _))
            (fun ha => by
              have := hG.there ha
              rw [← hp'] at this
              exact absurd this (Nat.lt_irrefl _))
            (fun j a ea => by
              obtain ⟨key, k, x, f1, f2, f3⟩ := hG.pairs j a ea
              exact ⟨key, k, x, f1, relV_key (show keyIs k key = true from f2), hk2 _ _ f3⟩)
          obtain ⟨os', e', rr⟩ := reps_of (K := X.K) (mg := X.mg) (hd := hd) (μ := μ1) hps c4 he'
          have : os' = os := ((List.map_inj_right fun _ _ q => by cases q; rfl).mp e').symm
          subst this
          obtain ⟨e2, o2⟩ := o1.grow c1
          exact ⟨.ref p', H', J, rfl, G1 μ1 H' e2 o2 _ (.lst c3 (nin_of o1 c2) (nhid_of o1 c2) rr)⟩
      · rw [if_neg hso] at G1
        exact G1.elim
end
end DL

namespace DL
open PySem PySem.Spec PyProof.Rows L2
/-! ### range(i, j, c), 0 < c -/
def rngC (i c : Int) (n : Nat) : List Val := (List.range n).map fun m => Val.int (i + (m : Nat) * c)
noncomputable def mRng3 (ms : MA) : MI := fun ρ st => (ms ρ st).bind fun vs st1 => match vs with
  | [.int i, .int j, .int c] => @ite _ (0 < c ∧ c ≤ 1000 ∧ -1000000 ≤ i ∧ i ≤ 1000000 ∧ -1000000 ≤ j ∧ j ≤ 1000000) (Classical.propDecidable _) (.ok ⟨rngC i c (Builtin.Range.rangeSize i j c).toNat, none⟩ st1) .stuck
  | _ => .stuck
theorem wk_rngC {K : PySem.W.Frag} {mg : Str → Option Value} {hd : List Addr} {μ : List Addr} {H : Hp} {i c : Int} {n : Nat} (z : n ≤ sizeLine) : Wk K mg hd μ H (Itc i c n) ⟨rngC i c n, none⟩ where
  go hd' hh m μ' st' H' e _ _ hi := by
    show m < n
    simpa [rngC] using hi
  stop hd' hh m μ' st' H' e _ _ hi := by
    show n ≤ m
    simpa [rngC] using hi
  yld hd' hh m μ' st' H' x H2 e o _ hy hi := by
    obtain ⟨rfl, rfl⟩ := hy
    have hi : m < n := by simpa [rngC] using hi
    exact ⟨.int (i + (m : Nat) * c), by simp [rngC, hi], Ext.refl, o, .int _⟩
  len := by simp [rngC]; exact z
theorem di_rng3 {X : Cx} {W : WX} {tg : Expr} {a b d : Expr} {ms : MA} {p pos : Pos} (hg : Gl X "range") (hm : X.mg "range" = none) (ha : PA X [a, b, d] (TDA X.K X.mg W ms))
    (hs : starEach [a, b, d] X.env = (false, eval a X.env) :: starEach [b, d] X.env := by rfl) (hpl : (backTo pos (starEach [b, d] X.env)).any (·.1) = false := by rfl) :
    PI X tg (.Call (.Name "range" p) [a, b, d] [] pos) (TDI X.K X.mg W (mRng3 ms)) :=
  PI.imp (pi_range3 hg hm ha hs hpl) fun σ H R ⟨hd, μ, ρ, st, S, G⟩ => ⟨hd, μ, ρ, st, S, Good.imp (Good.bind G) (fun μ1 st1 H1 vs e1 o1 G1 xs rxs => by
    split at G1
    · rename_i i j c
      split at G1
      · rename_i h
        cases rxs with
        | cons r1 r2 => cases r2 with
          | cons r2 r3 => cases r3 with
            | cons r3 r4 =>
              cases r4
              cases r1
              cases r2
              cases r3
              refine ⟨i, j, c, _, rfl, ⟨by omega, by omega, ?_, ?_⟩, G1.here o1 _ (wk_rngC ?_)⟩
              · have e1 := PyProof.Rows.rangeSize_toNat i j c
                have e2 := PyProof.Rows.rangeSize_toNat_le i j c
                unfold Builtin.Range.small
                simp only [Builtin.Range.rangeFitsLong, Bool.and_eq_true, Bool.or_eq_true, decide_eq_true_eq, beq_iff_eq]
                refine ⟨by omega, .inr ?_⟩
                rw [if_pos (by omega)]
                simp only [Bool.and_eq_true, decide_eq_true_eq]
                omega
              · exact PyProof.Rows.rangeSize_toNat i j c
              · have e2 := PyProof.Rows.rangeSize_toNat_le i j c
                rw [sz16]
                omega
      · exact G1.elim
    · exact G1.elim) fun _ _ h => h⟩
end DL

namespace HT
open PySem PySem.Spec PyProof.Rows L2
section
variable {prog : Program} {w : World} {A : Around} {E : Value → Shared → Prop} {s : Shared}
theorem sliceApplied_back {sl : Addr} {vs : Value} {n : Nat} {Q : Int × Int × Nat → Shared → Prop} (hs : s.heap.IsSliceOf sl .none .none vs) (ps : IsPart vs (some (-1))) (h : Q ((n : Int) - 1, -1, n) s) :
    wpAny (model prog w) A (Builtin.Slice.sliceApplied (.ref sl) (pure (n : Int))) Q E s := by
  obtain ⟨ob, h1, h2, h3⟩ := id hs
  unfold Builtin.Slice.sliceApplied Builtin.Slice.sliceFields
  refine wpAny_bind (wpAny_bind (wpAny_field h1 h3 (x := .none) rfl (wpAny_bind (wpAny_field h1 h3 (x := .none) rfl (wpAny_bind (wpAny_field h1 h3 (x := vs) rfl (wpAny_pure ?_)))))))
  refine wpAny_bind (slicePart_ ps ?_)
  show wpAny _ _ (if ((-1 : Int) == 0) = true then _ else _) _ _ s
  rw [if_neg (by decide)]
  refine wpAny_bind (slicePart_none (wpAny_bind (slicePart_none (wpAny_bind (wpAny_pure ?_)))))
  have e : Builtin.Slice.sliceAdjust none none (-1) (n : Int) = ((n : Int) - 1, -1) := by
    unfold Builtin.Slice.sliceAdjust
    simp
  have e2 : Builtin.Slice.slicePlaces ((n : Int) - 1) (-1) (-1) = n := by
    unfold Builtin.Slice.slicePlaces
    rw [if_neg (by decide)]
    by_cases hn : ((n : Int) - 1) > -1
    · rw [if_pos hn]
      simp
    · rw [if_neg hn]
      omega
  show wpAny _ _ (match Builtin.Slice.sliceAdjust none none (-1) (n : Int) with | (lo, hi) => pure (lo, (-1 : Int), Builtin.Slice.slicePlaces lo hi (-1))) _ _ s
  rw [e]
  show wpAny _ _ (pure ((n : Int) - 1, (-1 : Int), Builtin.Slice.slicePlaces ((n : Int) - 1) (-1) (-1))) _ _ s
  rw [e2]
  exact wpAny_pure h
theorem ix_all {α : Type} : ∀ l : List α, ((List.range l.length).filterMap fun k => l[k]?) = l
  | [] => rfl
  | x :: l => by
    rw [List.length_cons, List.range_succ_eq_map, List.filterMap_cons]
    simp only [List.getElem?_cons_zero]
    rw [List.filterMap_map]
    congr 1
    exact ix_all l
theorem filterMap_cg {α β : Type} {f g : α → Option β} : ∀ {l : List α}, (∀ x ∈ l, f x = g x) → l.filterMap f = l.filterMap g
  | [], _ => rfl
  | x :: l, h => by
    rw [List.filterMap_cons, List.filterMap_cons, h x List.mem_cons_self, filterMap_cg fun y hy => h y (List.mem_cons_of_mem _ hy)]
theorem pick_back (xs : Array Value) : ((List.range xs.size).filterMap fun (k : Nat) => xs[((xs.size : Int) - 1 + (k : Int) * -1).toNat]?).toArray = xs.toList.reverse.toArray := by
  congr 1
  have e : ((List.range xs.size).filterMap fun (k : Nat) => xs[((xs.size : Int) - 1 + (k : Int) * -1).toNat]?) = (List.range xs.size).filterMap fun k => xs.toList.reverse[k]? := by
    refine filterMap_cg fun k hk => ?_
    have hk : k < xs.size := List.mem_range.mp hk
    rw [List.getElem?_reverse (by simpa using hk)]
    rw [show ((xs.size : Int) - 1 + (k : Int) * -1).toNat = xs.size - 1 - k by omega]
    simp
  rw [e]
  have := ix_all xs.toList.reverse
  rw [List.length_reverse, Array.length_toList] at this
  exact this
theorem getItem_tuple_back {t sl : Addr} {items : Array Value} {vs : Value} {Q : Value → Shared → Prop} (ht : IsTup s.heap t items) (hs : s.heap.IsSliceOf sl .none .none vs) (ps : IsPart vs (some (-1)))
    (h : Q (.ref s.heap.objs.size) { s with heap := s.heap.push { cls := .type "tuple", data := .seq items.toList.reverse.toArray } }) (hsz : items.size ≤ sizeLine) : wpAny (model prog w) A (getItem (.ref t) (.ref sl)) Q E s := by
  have hz : sizeOk (.seq items.toList.reverse.toArray) := by
    show items.toList.reverse.toArray.size ≤ sizeLine
    rw [List.size_toArray, List.length_reverse, Array.length_toList]
    exact hsz
  obtain ⟨ob, h1, h2, h3⟩ := id hs
  have hT : s.TypeIs (.ref sl) "slice" := ⟨ob, h1, h2⟩
  unfold getItem
  try with_reducible refine wpAny_holding ?_
  first | refine wpAny_bind (wpAny_pure ?_) | skip
  refine wpAny_bind (wpAny_sequenceKey ht.typeIs (by decide) ?_)
  refine wpAny_bind (wpAny_callSpecial?_slot (name := Str.ofString "__getitem__") ht.typeIs PyProof.Rows.slot_tuple_getitem (wpAny_call_entry PyProof.Rows.slot_tuple_getitem ht.typeIs entry_tuple_getitem ?_ (args_tuple_getitem _ _)))
  show wpAny _ _ (Builtin.Tuple.tupleItemsOf (.ref t) >>= _) _ _ s
  refine wpAny_bind (tupleItemsOf_ ht ?_)
  refine wpAny_bind (wpAny_typeOf hT ?_)
  rw [if_pos (by decide)]
  refine wpAny_bind (sliceApplied_back hs ps ?_)
  show wpAny _ _ (if ((((items.size : Int) - 1) == 0 && (-1 : Int) == 1 && items.size == items.size) = true) then _ else _) _ _ s
  rw [if_neg (by simp), pick_back]
  first
    | exact wpAny_bind (m := Builtin.Tuple.tupleExact _) (wpAny_newObj_type (wpAny_pure ⟨_, rfl, wpAny_pure h⟩) hz)
    | exact wpAny_bind (m := Builtin.Tuple.tupleExact _) (wpAny_newObj_type (wpAny_bind (wpAny_pure (wpAny_pure ⟨_, rfl, wpAny_pure h⟩))) hz)
    | exact wpAny_bind (wpAny_bind (m := Builtin.Tuple.tupleExact _) (wpAny_newObj_type (wpAny_pure (wpAny_pure ⟨_, rfl, wpAny_pure h⟩)) hz))
    | exact wpAny_bind (wpAny_bind (m := Builtin.Tuple.tupleExact _) (wpAny_newObj_type (wpAny_pure ⟨_, rfl, wpAny_pure h⟩) hz))
end
end HT
namespace DL
open PySem PySem.Spec PyProof.Rows L2
/-! ### xs[::-1] -/
def revF (v : Val) (st : Sto) : Res Val := match v with
  | .tup vs => .ok (.tup vs.reverse) st
  | _ => .stuck
def revLF (v : Val) (st : Sto) : Res Val := match readL v st with
  | some vs => .ok (.lst vs.reverse) st
  | none => .stuck
def tRevT (K : PySem.W.Frag) (te : TE) : TE := fun σ H Q => te σ H fun x H1 => ∃ a xs, x = .ref a ∧ SqT K H1 a xs ∧ ∀ p, H1 p = none → Q (.ref p) (upd H1 p (.tup xs.reverse))
section
variable {X : Cx} {e : Expr} {te : TE} {k : Nat} {p1 p2 p3 pos : Pos}
theorem pe_revT (he : PE X e te) : PE X (.Subscript e (.Slice none none (some (.UnaryOp .USub (.Constant (.int 1) k p1) p2)) p3) pos) (tRevT X.K te) := by
  refine ⟨fun pins s σ H Q I h => ?_⟩
  refine Subscript_ (thn (he.run pins s σ H _ I h) fun v s1 ⟨x, H1, I1, r1, a, xs, ex, hx, q⟩ => ?_)
  subst ex
  cases r1
  have hst : PO X (some (.UnaryOp .USub (.Constant (.int 1) k p1) p2)) (tPart (tUn (rU fun i => .int (-i)) (tC (.int 1)))) := po_some (pe_un un_neg pe_int)
  refine wpAny_Slice (thn (po_none.run pins s1 σ H1 (fun o H2 => o = none ∧ H2 = H1) I1 ⟨rfl, rfl⟩) fun vl s2 ⟨l, H2, I2, pl, el, e2⟩ => ?_)
  subst el e2
  refine thn (po_none.run pins s2 σ H2 (fun o H3 => o = none ∧ H3 = H2) I2 ⟨rfl, rfl⟩) fun vu s3 ⟨u, H3, I3, pu, eu, e3⟩ => ?_
  subst eu e3
  refine thn (hst.run pins s3 σ H3 (fun o H4 => o = some (-1) ∧ H4 = H3) I3 ⟨1, rfl, -1, rfl, rfl, rfl⟩) fun vs s4 ⟨o, H4, I4, ps, eo, e4⟩ => ?_
  subst eo e4
  cases pl
  cases pu
  have I5 : Inv X pins σ H4 { s4 with heap := s4.heap.push { cls := .type "slice", data := .fields #[.none, .none, vs] } } := I4.kept (t' := s4.toks) fun b ob q => Heap.get?_push_of_some _ q
  obtain ⟨its, r, ht, hz⟩ := I5.tuple hx
  have rl := r.length
  show wpAny (model X.prog X.w) X.A (subscriptTail e (.Slice none none (some (.UnaryOp .USub (.Constant (.int 1) k p1) p2)) p3) (.ref a) (.ref s4.heap.objs.size)) (EP X pins σ Q) X.xe { s4 with heap := s4.heap.push { cls := .type "slice", data := .fields #[.none, .none, vs] } }
  refine tail_any (ops := [.ref a, .ref s4.heap.objs.size]) ht.typeIs (PyProof.Rows.slot_tuple_getitem.lookup) ?_ (by with_unfolding_all rfl)
  refine HT.getItem_tuple_back ht (Heap.IsSliceOf.new _ .none .none vs) ps ?_ (by rw [List.size_toArray]; omega)
  refine ⟨.ref _, _, I5.laid (t' := s4.toks) (o := .tup xs.reverse) (fun b ob q => Heap.get?_push_of_some _ q) (Nat.le_refl _) ?_, rfl, q _ (I5.hok.fresh (Nat.le_refl _))⟩
  exact ⟨by rw [List.length_reverse]; exact hz, its.reverse, r.reverse, IsTup.new _ _⟩
variable {W : WX} {m : ME}
theorem RepL.reverse {K : PySem.W.Frag} {mg : Str → Option Value} {hd μ : List Addr} {H : Hp} : ∀ {vs : List Val} {xs : List V}, RepL K mg hd μ H vs xs → RepL K mg hd μ H vs.reverse xs.reverse
  | _, _, .nil => .nil
  | _, _, .cons h1 h2 => by
    rw [List.reverse_cons, List.reverse_cons]
    exact (RepL.reverse h2).append (.cons h1 .nil)
theorem d_revT (he : PE X e (TD X.K X.mg W m)) : PE X (.Subscript e (.Slice none none (some (.UnaryOp .USub (.Constant (.int 1) k p1) p2)) p3) pos) (TD X.K X.mg W (mUn revF m)) :=
  PE.imp (pe_revT he) fun σ H Q ⟨hd, μ, ρ, st, S, G⟩ => ⟨hd, μ, ρ, st, S, Good.imp (Good.bind G) (fun μ1 st1 H1 v e1 o1 G1 x rx => by
    cases rx with
    | @tup a xs vs h1 h2 => exact ⟨a, xs, rfl, h1, fun p hp => G1 μ1 _ (Ext.obj hp) (o1.obj hp) _ (.tup (SqT.of upd_same) (RepL.ext (Ext.obj hp) _ _ (RepL.reverse h2)))⟩
    | _ => exact G1.elim) fun _ _ h => h⟩
theorem d_revL (he : PE X e (TD X.K X.mg W m)) : PE X (.Subscript e (.Slice none none (some (.UnaryOp .USub (.Constant (.int 1) k p1) p2)) p3) pos) (TD X.K X.mg W (mUn revLF m)) :=
  PE.imp (pe_revL he) fun σ H Q ⟨hd, μ, ρ, st, S, G⟩ => ⟨hd, μ, ρ, st, S, Good.imp (Good.bind G) (fun μ1 st1 H1 v e1 o1 G1 x rx => by
    unfold revLF at G1
    cases hq : readL v st1 with
    | none => rw [hq] at G1; exact G1.elim
    | some vs =>
      rw [hq] at G1
      obtain ⟨a, xs, rfl, h1, h2⟩ := readL_at o1 rx hq
      exact ⟨a, xs, rfl, h1, fun p hp => G1 μ1 _ (Ext.obj hp) (o1.obj hp) _ (new_lst o1 (RepL.reverse h2) hp)⟩) fun _ _ h => h⟩
end
end DL

namespace DL
open PySem PySem.Spec PyProof.Rows L2
/-! ### d == e, two dicts whose values are whole numbers -/
def hitB (ls : List (Key × V)) : List (Key × V) → Option Bool
  | [] => some true
  | (k, .int i) :: r => match valV ls k with
    | none => some false
    | some (.int j) => (hitB ls r).map fun b => (i == j) && b
    | _ => none
  | _ => none
theorem hitB_run {P : Program} {w : World} {A : Around} {s : Shared} {ls : List (Key × V)} {vb : List (Key × Value)} (rb : KV ls vb) {ks : List (Key × V)} {va : List (Key × Value)} (ra : KV ks va) : ∀ {r : Bool}, hitB ls ks = some r → PySem.W.KeqHitsP P w A s vb va r := by
  unfold KV at ra
  induction ra with
  | nil => intro r h; cases h; exact .nil
  | @cons p q ps qs h t k =>
    intro r hp
    obtain ⟨h1, h2⟩ := h
    obtain ⟨key, v⟩ := q
    obtain ⟨pk, pv⟩ := p
    have h1' : pk = key := h1
    subst h1'
    cases pv with
    | int i =>
      simp only [hitB] at hp
      obtain ⟨t1, rfl⟩ := h2
      have rr : RelO (valV ls pk) (valueAt vb pk) := rb.val pk
      cases hv : valV ls pk with
      | none =>
        rw [hv] at hp rr
        cases hp
        refine .miss ?_
        cases q : valueAt vb pk with
        | none => rfl
        | some z => rw [q] at rr; exact rr.elim
      | some x =>
        rw [hv] at hp rr
        obtain ⟨y, hy, ry⟩ := rr.some_of
        cases x with
        | int j =>
          dsimp only at hp
          cases hb : hitB ls ps with
          | none => rw [hb] at hp; cases hp
          | some b =>
            rw [hb] at hp
            cases hp
            obtain ⟨t2, rfl⟩ := ry
            exact .hit hy (SeqAt.EqAt.int_int _ _ _ _).eqP (k hb)
        | _ => cases hp
    | _ => cases hp
def eqDF (v w : Val) (st : Sto) : Res Val := match dictOf v st, dictOf w st with
  | some a, some b => if a.length = b.length then (match hitB b a with
    | some r => .ok (.bl r) st
    | none => .stuck) else .ok (.bl false) st
  | _, _ => .stuck
theorem eqDF_ne : NoExc2 eqDF := fun v w st c st' h => by
  unfold eqDF at h
  split at h
  · split at h
    · split at h <;> cases h
    · cases h
  · cases h
theorem eqDF_ok {X : Cx} (hu : X.A.units + 64 < cLine) : OpD X (compareOp .Eq) eqDF := by
  intro pins s σ H x y v u Q I rv ru ⟨hd, μ, st, v', w', o, r1, r2, G⟩
  unfold eqDF at G
  cases h1 : dictOf v' st with
  | none => rw [h1] at G; exact G.elim
  | some ks =>
    cases h2 : dictOf w' st with
    | none => rw [h1, h2] at G; exact G.elim
    | some ls =>
      rw [h1, h2] at G
      dsimp only at G
      obtain ⟨a, rfl, rd1⟩ := dictOf_at o r1 h1
      obtain ⟨b, rfl, rd2⟩ := dictOf_at o r2 h2
      cases (show v = Value.ref a from rv)
      cases (show u = Value.ref b from ru)
      obtain ⟨_, ya, va, ra, da⟩ := dk_rd I.hok rd1
      obtain ⟨_, yb, vb, rb, db⟩ := dk_rd I.hok rd2
      by_cases hl : ks.length = ls.length
      · rw [if_pos hl] at G
        cases hh : hitB ls ks with
        | none => rw [hh] at G; exact G.elim
        | some r =>
          rw [hh] at G
          refine PySem.W.rcP_dicts (knd := mixKind X.prog X.w) (r := r) ya yb da db (by omega) (fun _ => hitB_run rb ra hh) X.xe _ ?_
          have e : va.length = vb.length := by rw [← ra.length, ← rb.length]; exact hl
          refine ⟨.bl r, H, I, ?_, G.here o _ (.bl _)⟩
          rw [show (va.length == vb.length && r) = r from by rw [e]; simp]
          rfl
      · rw [if_neg hl] at G
        refine PySem.W.rcP_dicts (knd := mixKind X.prog X.w) (r := false) ya yb da db (by omega) (fun e => absurd e ?_) X.xe _ ?_
        · rw [← ra.length, ← rb.length]; exact hl
        · refine ⟨.bl false, H, I, ?_, G.here o _ (.bl _)⟩
          rw [Bool.and_false]
          rfl
end DL

namespace DL
open PySem PySem.Spec PyProof.Rows L2
/-! ### try: .. except X: return None -/
def mTryN (idx : Str → Option Nat) (body : MS) : MS := fun ρ st => match body ρ st with
  | .exc c _ st' => (match idx c with
    | some _ => .ret .non st'
    | none => .stuck)
  | r => r
section
variable {X : Cx} {W : WX} {x : Str} {c : Addr} {body : List Stmt} {mb : MS} {np pos pos' p1 p2 : Pos} {kk : Nat} {idx : Str → Option Nat}
theorem ds_tryN (hs : X.stack = X.env :: X.outer) (hf : X.env.frame = some X.env.locals) (hc : Names X x (.ref c)) (tk : Takes X W)
    (hw : ∀ (cc : Str) (j : Nat), idx cc = some j → ∃ D : Addr, X.mg cc = some (.ref D) ∧ PySem.W.exmOne X.K (.ref D) (.ref c) = some true)
    (hb : ∀ (W' : WX) (pn : List (Addr × Obj)) (xe : Value → Shared → Prop), Takes (X.tr pn xe) W' → PassesOwn (model X.prog X.w) X.A X.env xe → PSs (X.tr pn xe) body (TDS X.K X.mg W' mb)) :
    PS X (.Try body [.ExceptHandler (some (.Name x np)) none [.Return (some (.Constant .none kk p2)) p1] pos'] [] [] pos) (TDS X.K X.mg W (mTryN idx mb)) := by
  refine PS.imp (ps_try_only (Wout := W) (tb := fun W' => TDS X.K X.mg W' mb) (ts := fun a cls d D' σ H => D'.rt .non H) hs hf hc tk hb fun a oe cls d pn hz hfd => ?_) fun D σ H h => ?_
  · exact pss_one (ps_ret pe_non)
  · obtain ⟨hd, μ, ρ, st, S, G⟩ := TDS_def.mp h
    refine TDS_def.mpr ⟨hd, μ, ρ, st, S, ?_⟩
    unfold mTryN at G
    cases hr : mb ρ st with
    | next => rw [hr] at G; exact G
    | ret => rw [hr] at G; exact G
    | brk => rw [hr] at G; exact G
    | cnt => rw [hr] at G; exact G
    | stuck => rw [hr] at G; exact G
    | exc cc ρ' st' =>
      rw [hr] at G
      dsimp only at G
      cases hx : idx cc with
      | none => rw [hx] at G; exact G.elim
      | some j =>
        rw [hx] at G
        obtain ⟨Dd, m1, m2⟩ := hw cc j hx
        intro μ' H' σ' e' S'
        exact ⟨Dd, m1, true, m2, fun _ a na => G μ' H' .non e' S'.sto .non, fun z => nomatch z⟩
end
/-! ### a fresh list that becomes a cell -/
noncomputable def mListC (ms : MA) : MC := fun ρ st => (ms ρ st).bind fun vs st1 => match vs with
  | [v] => (match seqOf v st1 with
    | some us => .ok (.lst us) st1
    | none => .stuck)
  | _ => .stuck
section
variable {X : Cx} {W : WX} {x : Str} {p pos : Pos} {e : Expr} {ms : MA}
theorem df_list (hg : Gl X x) (hm : X.mg x = none) (hv : bootBuiltins x = some (.type "list")) (ha : PA X [e] (TDA X.K X.mg W ms)) (hn : x ≠ "__name__" := by decide) (hdb : (x == ("__debug__" : Str)) = false := by decide)
    (he : starEach [e] X.env = (false, eval e X.env) :: starEach [] X.env := by rfl) (hpl : (backTo pos (starEach [] X.env)).any (·.1) = false := by rfl) : PE X (.Call (.Name x p) [e] [] pos) (TDF X.K X.mg W (mListC ms)) :=
  PE.imp (pe_callTy call_list_of hg hm hv ha hn hdb he hpl) fun σ H Q ⟨hd, μ, ρ, st, S, G⟩ => ⟨hd, μ, ρ, st, S, Good.imp (Good.bind G) (fun μ1 st1 H1 vs e1 o1 G1 xs rxs => by
    cases rxs with
    | nil => exact G1.elim
    | cons r1 r2 =>
      cases r2 with
      | cons _ _ => exact G1.elim
      | nil =>
        dsimp only at G1
        cases hs : seqOf _ st1 with
        | none => rw [hs] at G1; exact G1.elim
        | some us =>
          rw [hs] at G1
          obtain ⟨a, ys, rfl, h1, h2⟩ := seqOf_at o1 r1 hs
          exact ⟨a, ys, rfl, h1, fun p hp => df_of S.sto e1 o1 h2 G1 p hp⟩) fun _ _ h => h⟩
/-- [..] * n -/
noncomputable def mRepC (ma mb : ME) : MC := fun ρ st => (ma ρ st).bind fun v st1 => (mb ρ st1).bind fun w st2 => match v, w with
  | .lst vs, .int k => @ite _ (-(2 ^ 63) ≤ k ∧ k < 2 ^ 63 ∧ vs.length * k.toNat ≤ sizeLine) (Classical.propDecidable _) (.ok (.lst (List.replicate k.toNat vs).flatten) st2) .stuck
  | _, _ => .stuck
theorem df_rep {a b : Expr} {ma mb : ME} (ha : PE X a (TD X.K X.mg W ma)) (hb : PE X b (TD X.K X.mg W mb)) : PE X (.BinOp a .Mult b pos) (TDF X.K X.mg W (mRepC ma mb)) :=
  PE.imp (pe_op op_rep ha hb) fun σ H Q ⟨hd, μ, ρ, st, S, G⟩ => ⟨hd, μ, ρ, st, S, Good.imp (Good.bind G) (fun μ1 st1 H1 v e1 o1 G1 x rx => by
    refine ⟨hd, μ1, ρ, st1, S.ext e1 o1, Good.imp (Good.bind G1) (fun μ2 st2 H2 w e2 o2 G2 y ry => ?_) fun _ _ h => h⟩
    have rx := Rep.ext e2 _ _ rx
    cases ry with
    | int k =>
      cases rx with
      | lst h1 n1 n2 h2 =>
        dsimp only at G2
        split at G2
        · rename_i hz
          exact ⟨_, k, _, rfl, rfl, h1, hz.1, hz.2.1, by rw [← h2.len]; exact hz.2.2, fun p hp => df_of S.sto (e1.trans e2) o2 (h2.flat _) G2 p hp⟩
        · exact G2.elim
      | _ => exact G2.elim
    | _ => cases v <;> exact G2.elim) fun _ _ h => h⟩
end
/-! ### xs.count(k), xs.remove(k) -/
def countF : FM := fun v vs st => match v, vs with
  | v, [.int k] => match (readL v st).bind intsOf with
    | some ns => .ok (.int (ns.count k : Nat)) st
    | none => .stuck
  | _, _ => .stuck
theorem countF_ne : NoExcM countF := fun v vs st c st' h => by
  unfold countF at h
  split at h
  · split at h <;> cases h
  · cases h
theorem count_ok {X : Cx} : MtR X "list.count" (rM X.K X.mg countF) := by
  intro pins s σ H x xs v us Q I rx rxs ⟨hd, μ, st, v', vs, o, r1, r2, G⟩
  unfold countF at G
  split at G
  · rename_i k
    cases hq : readL v' st with
    | none => simp only [hq, Option.bind] at G; exact G.elim
    | some ws =>
      simp only [hq, Option.bind] at G
      cases hb : intsOf ws with
      | none => rw [hb] at G; exact G.elim
      | some ns =>
        rw [hb] at G
        obtain ⟨a, ys, rfl, h1, h2⟩ := readL_at o r1 hq
        rw [intsOf_eq hb] at h2
        have hy := RepL.ints h2
        subst hy
        cases r2 with
        | cons h3 h4 =>
          cases h4
          cases h3
          exact mt_lcount pins s σ H _ _ v us Q I rx rxs ⟨a, ns, k, rfl, rfl, h1, G.here o _ (.int _)⟩
  · exact G.elim
def removeF : FM := fun v vs st => match v, vs with
  | .ref l, [.int k] => match (lstAt st l).bind intsOf with
    | some ns => if k ∈ ns then .ok .non (st.set l (.lst ((ns.erase k).map Val.int))) else .stuck
    | none => .stuck
  | _, _ => .stuck
theorem removeF_ne : NoExcM removeF := fun v vs st c st' h => by
  unfold removeF at h
  split at h
  · split at h
    · split at h <;> cases h
    · cases h
  · cases h
theorem first_ix : ∀ {ns : List Int} {k : Int}, k ∈ ns → ∃ j, j < ns.length ∧ ns[j]? = some k ∧ (∀ i, i < j → ns[i]? ≠ some k) ∧ ns.eraseIdx j = ns.erase k
  | n :: ns, k, h => by
    by_cases e : n = k
    · subst e
      exact ⟨0, by simp, rfl, fun i hi => absurd hi (Nat.not_lt_zero i), by simp⟩
    · have h' : k ∈ ns := by
        rcases List.mem_cons.mp h with q | q
        · exact absurd q.symm e
        · exact q
      obtain ⟨j, h1, h2, h3, h4⟩ := first_ix h'
      refine ⟨j + 1, by simpa using h1, by simpa using h2, fun i hi => ?_, ?_⟩
      · cases i with
        | zero => simpa using e
        | succ i => simpa using h3 i (by omega)
      · rw [List.eraseIdx_cons_succ, h4, List.erase_cons_tail (by simpa using e)]
theorem remove_ok {X : Cx} : MtR X "list.remove" (rM X.K X.mg removeF) := by
  intro pins s σ H x xs v us Q I rx rxs ⟨hd, μ, st, v', vs, o, r1, r2, G⟩
  unfold removeF at G
  split at G
  · rename_i l k
    cases hq : lstAt st l with
    | none => simp only [hq, Option.bind] at G; exact G.elim
    | some ws =>
      simp only [hq, Option.bind] at G
      cases hb : intsOf ws with
      | none => rw [hb] at G; exact G.elim
      | some ns =>
        rw [hb] at G
        dsimp only at G
        by_cases hk : k ∈ ns
        · rw [if_pos hk] at G
          cases r1 with
          | ref hl =>
            obtain ⟨ys, h1, h2⟩ := lstAt_ok o hl hq
            rw [intsOf_eq hb] at h2
            have hy := RepL.ints h2
            subst hy
            cases r2 with
            | cons h3 h4 =>
              cases h4
              cases h3
              obtain ⟨j, j1, j2, j3, j4⟩ := first_ix hk
              obtain ⟨e, o'⟩ := set_lst o hl h1 (RepL.of_ints (ns.erase k))
              refine mt_remove pins s σ H _ _ v us Q I rx rxs ⟨_, ns, k, j, rfl, rfl, h1, j2, j3, ?_⟩
              rw [j4]
              exact G μ _ e o' _ .non
        · rw [if_neg hk] at G
          exact G.elim
  · exact G.elim
/-! ### is None, as a test -/
section
variable {X : Cx} {W : WX} {a : Expr} {pos pos' : Pos} {ma : ME} {j : Nat}
theorem dt_isN (ha : PE X a (TD X.K X.mg W ma)) : PT X (.Compare a [.Is] [.Constant .none j pos'] pos) (TDT X.K X.mg W (mBool (mUn (isNV true) ma))) :=
  PT.imp (pt_cmp (pc_isN ha) rfl) fun σ H Q ⟨hd, μ, ρ, st, S, G⟩ => ⟨hd, μ, ρ, st, S, by
    unfold mBool mUn at G
    have G := Good.bind (Good.bind G)
    refine Good.imp G (fun μ1 st1 H1 v e1 o1 G1 x rx => ⟨_, rfl, ?_⟩) fun _ _ h => h
    rw [rep_non rx]
    cases v <;> exact G1.here o1 |>.here o1⟩
theorem dt_notN (ha : PE X a (TD X.K X.mg W ma)) : PT X (.Compare a [.IsNot] [.Constant .none j pos'] pos) (TDT X.K X.mg W (mBool (mUn (isNV false) ma))) :=
  PT.imp (pt_cmp (pc_notN ha) rfl) fun σ H Q ⟨hd, μ, ρ, st, S, G⟩ => ⟨hd, μ, ρ, st, S, by
    unfold mBool mUn at G
    have G := Good.bind (Good.bind G)
    refine Good.imp G (fun μ1 st1 H1 v e1 o1 G1 x rx => ⟨_, rfl, ?_⟩) fun _ _ h => h
    rw [rep_non rx]
    cases v <;> exact G1.here o1 |>.here o1⟩
end
end DL

/-! Tuples whose objects are known to have no dict: their methods. -/
namespace DL
open PySem PySem.Spec PyProof.Rows L2
section
variable {X : Cx} {W : WX} {es : List Expr} {x1 : Nat} {pos : Pos}
/-! ### made by a display -/
def tTupN (t : TA) : TE := fun σ H Q => t σ H fun xs H1 => xs.length ≤ sizeLine ∧ ∀ p, H1 p = none → ∀ H2 : Hp, (∃ o : Obj, H2 = upd H1 p (.frz o (.tup xs)) ∧ o.cls = .type "tuple" ∧ o.dict = none) → Q (.ref p) H2
theorem pe_tupN {t : TA} (h : PA X es t) : PE X (.Tuple es x1 pos) (tTupN t) := ⟨fun pins s σ H Q I hq =>
  wpAny_Tuple_spliced (thn (h.run pos pins s σ H _ I hq) fun us s1 hh => by
    obtain ⟨xs, H1, J, r, z, q⟩ := hh
    refine ⟨by rw [← r.length]; exact z, ?_⟩
    have free := J.hok.fresh (Nat.le_refl s1.heap.objs.size)
    let ob : Obj := { cls := .type "tuple", data := .seq us.toArray }
    have here : (s1.heap.push ob).get? s1.heap.objs.size = some ob := Heap.get?_push_size _ rfl
    have fits : ObjOk X.prog X.w (upd H1 s1.heap.objs.size (.frz ob (.tup xs))) (s1.heap.push ob) s1.heap.objs.size (.frz ob (.tup xs)) := ⟨here, z, us, r, ob, here, rfl, _, rfl⟩
    exact ⟨.ref s1.heap.objs.size, _, J.laid (t' := s1.toks) (fun b u e => Heap.get?_push_of_some _ e) (Nat.le_refl _) fits, rfl, q _ free _ ⟨ob, rfl, rfl, rfl⟩⟩)⟩
def mTupN (ms : MA) : ME := fun ρ st => (ms ρ st).bind fun vs st1 => if vs.length ≤ sizeLine then .ok (.tpl vs) st1 else .stuck
theorem d_tupN {ms : MA} (h : PA X es (TDA X.K X.mg W ms)) : PE X (.Tuple es x1 pos) (TD X.K X.mg W (mTupN ms)) :=
  PE.imp (pe_tupN h) fun σ H Q ⟨hd, μ, ρ, st, S, G⟩ => ⟨hd, μ, ρ, st, S, Good.imp (Good.bind G) (fun μ1 st1 H1 vs e1 o1 G1 xs rxs => by
    by_cases hz : vs.length ≤ sizeLine
    · rw [if_pos hz] at G1
      refine ⟨by rw [← rxs.len]; exact hz, fun p hp H2 hH2 => ?_⟩
      obtain ⟨o, rfl, h1, h2⟩ := hH2
      exact G1 μ1 _ (Ext.obj hp) (o1.obj hp) _ (.tpl ⟨o, upd_same, h1, h2⟩ (RepL.ext (Ext.obj hp) _ _ rxs))
    · rw [if_neg hz] at G1
      exact G1.elim) fun _ _ h => h⟩
end
/-! ### t + u -/
section
variable {X : Cx}
def rCatN (K : PySem.W.Frag) : R2 := fun x y H Q => ∃ a b xs ys, x = .ref a ∧ y = .ref b ∧ SqT K H a xs ∧ SqT K H b ys ∧ xs ≠ [] ∧ ys ≠ [] ∧ xs.length + ys.length ≤ sizeLine ∧
  ∀ p, H p = none → ∀ H2 : Hp, (∃ o : Obj, H2 = upd H p (.frz o (.tup (xs ++ ys))) ∧ o.cls = .type "tuple" ∧ o.dict = none) → Q (.ref p) H2
theorem op_catN : OpR X (binaryOp .Add) (rCatN X.K) := fun pins s σ H x y v u Q I rx ry hh => by
  obtain ⟨a, b, xs, ys, rfl, rfl, ha, hb, hx, hy, hz, q⟩ := hh
  obtain rfl : v = Value.ref a := rx
  obtain rfl : u = Value.ref b := ry
  obtain ⟨vs, r1, p1, _⟩ := I.tuple ha
  obtain ⟨ws, r2, p2, _⟩ := I.tuple hb
  have n1 : vs ≠ [] := fun z => hx (r1.nil_iff.mp z)
  have n2 : ws ≠ [] := fun z => hy (r2.nil_iff.mp z)
  refine HT.cat_tup p1 p2 n1 (fun z => absurd z n2) (fun _ => ?_) (by rw [← r1.length, ← r2.length]; exact hz)
  let ob : Obj := { cls := .type "tuple", data := .seq (vs ++ ws).toArray }
  have here : (s.heap.push ob).get? s.heap.objs.size = some ob := Heap.get?_push_size _ rfl
  have fits : ObjOk X.prog X.w (upd H s.heap.objs.size (.frz ob (.tup (xs ++ ys)))) (s.heap.push ob) s.heap.objs.size (.frz ob (.tup (xs ++ ys))) := ⟨here, by rw [List.length_append]; exact hz, vs ++ ws, r1.append r2, ob, here, rfl, _, rfl⟩
  exact ⟨.ref s.heap.objs.size, _, I.laid (t' := s.toks) (fun b u e => Heap.get?_push_of_some _ e) (Nat.le_refl _) fits, rfl, q _ (I.hok.fresh (Nat.le_refl _)) _ ⟨ob, rfl, rfl, rfl⟩⟩
/-- t + u, u not empty: without a dict -/
def addNF (v w : Val) (st : Sto) : Res Val := match v, w with
  | .tup [], .tpl ws => .ok (.tpl ws) st
  | .tpl (v :: vs), .tpl (w :: ws) => if (v :: vs).length + (w :: ws).length ≤ sizeLine then .ok (.tpl ((v :: vs) ++ (w :: ws))) st else .stuck
  | _, _ => .stuck
theorem addNF_ne : NoExc2 addNF := fun v w st c st' h => by
  unfold addNF at h
  split at h
  · cases h
  · split at h <;> cases h
  · cases h
theorem addNF_ok : OpD X (binaryOp .Add) addNF := by
  intro pins s σ H x y v u Q I rv ru ⟨hd, μ, st, v', w', o, r1, r2, G⟩
  unfold addNF at G
  split at G
  · cases r1 with
    | tup h1 h2 =>
      cases h2
      cases r2 with
      | tpl h3 h4 =>
        refine op_catA pins s σ H _ _ v u Q I rv ru ⟨_, _, [], _, rfl, rfl, h1, h3.sq, ?_, fun _ => G.here o _ (.tpl h3 h4), fun e => absurd rfl e, fun e => absurd rfl e⟩
        have hz := sz_of I _ _ (.inr h3.sq)
        simpa using hz
  · split at G
    · rename_i hz
      cases r1 with
      | tpl h1 h2 =>
        cases r2 with
        | tpl h3 h4 =>
          refine op_catN pins s σ H _ _ v u Q I rv ru ⟨_, _, _, _, rfl, rfl, h1.sq, h3.sq, ?_, ?_, by rw [← h2.len, ← h4.len]; exact hz, fun p hp H2 hH2 => ?_⟩
          · rintro rfl; cases h2
          · rintro rfl; cases h4
          · obtain ⟨ob, rfl, q1, q2⟩ := hH2
            exact G μ _ (Ext.obj hp) (o.obj hp) _ (.tpl ⟨ob, upd_same, q1, q2⟩ (RepL.ext (Ext.obj hp) _ _ (h2.append h4)))
    · exact G.elim
  · exact G.elim
end
/-! ### t.m(..) -/
def tBMT (r : V → List V → Hp → VK → Prop) (to : TE) (t : TA) : TE := fun σ H Q => to σ H fun x H1 => (∃ p xs, x = V.ref p ∧ TplN H1 p xs) ∧ t σ H1 fun vs H2 => r x vs H2 Q
section
variable {X : Cx} {W : WX} {o e : Expr} {es : List Expr} {name : Str} {apos cpos : Pos} {id : String} {r : V → List V → Hp → VK → Prop} {to : TE} {t : TA}
theorem pe_bmT (slot : Slot "tuple" name id) (hty : typeOf (.builtin id) = pure (.type "method_descriptor")) (hm : MtR X id r) (ho : PE X o to) (ha : PA X (e :: es) t)
    (hbase : attributeBase o name X.env (eval o X.env) = eval o X.env := by rfl)
    (hfew : ((backTo cpos (starEach (e :: es) X.env)).all (fun x => !x.1) && (backToKw cpos (keywordEach [] X.env)).all (fun x => x.1.isSome) && decide ((e :: es).length + ([] : List Keyword).length + (if ([] : List Keyword).isEmpty then 0 else 1) < 30)) = true := by rfl)
    (hline : (apos.endLine == cpos.line) = true := by rfl) (hs : starEach (e :: es) X.env = (false, eval e X.env) :: starEach es X.env := by rfl) (hplain : (backTo cpos (starEach es X.env)).any (·.1) = false := by rfl) :
    PE X (.Call (.Attribute o name apos) (e :: es) [] cpos) (tBMT r to t) := ⟨fun pins s σ H Q I hq => by
  refine wpAny_Call_method_late hbase hfew hline rfl (thn (ho.run pins s σ H _ I hq) fun v s1 hh => ?_)
  obtain ⟨x, H1, J, rx, ⟨p, xs, rfl, ob, hob, hcls, hdict⟩, q1⟩ := hh
  obtain rfl : v = Value.ref p := rx
  have hg : s1.heap.get? p = some ob := (J.hok p _ hob).1
  refine ⟨"tuple", id, PySem.F.plainAttrs_tuple, slot, hty, ⟨ob, hg, hcls⟩, fun a ea => ?_, ?_⟩
  · cases ea
    exact ⟨ob, hg, hdict⟩
  have hA := ha.run cpos pins s1 σ H1 _ J q1
  rw [hs] at hA ⊢
  refine Calls.callWith_builtin (by show (false || (backTo cpos (starEach es X.env)).any (·.1)) = false; rw [hplain]; rfl) (Calls.evalArgs_plain ?_)
  exact thn hA fun us s2 ⟨vs, H2, J2, r2, q2⟩ => hm pins s2 σ H2 (V.ref p) vs (Value.ref p) us Q J2 (show RelV (V.ref p) (Value.ref p) from rfl) r2 q2⟩
def chkT (v : Val) (_ : Sto) : Bool := match v with
  | .tpl _ => true
  | _ => false
variable {mo : ME} {ms : MA} {F : FM}
theorem d_bmT (slot : Slot "tuple" name id) (hty : typeOf (.builtin id) = pure (.type "method_descriptor")) (hm : MtR X id (rM X.K X.mg F)) (hF : NoExcM F) (ho : PE X o (TD X.K X.mg W mo)) (ha : PA X (e :: es) (TDA X.K X.mg W ms))
    (hbase : attributeBase o name X.env (eval o X.env) = eval o X.env := by rfl)
    (hfew : ((backTo cpos (starEach (e :: es) X.env)).all (fun x => !x.1) && (backToKw cpos (keywordEach [] X.env)).all (fun x => x.1.isSome) && decide ((e :: es).length + ([] : List Keyword).length + (if ([] : List Keyword).isEmpty then 0 else 1) < 30)) = true := by rfl)
    (hline : (apos.endLine == cpos.line) = true := by rfl) (hs : starEach (e :: es) X.env = (false, eval e X.env) :: starEach es X.env := by rfl) (hplain : (backTo cpos (starEach es X.env)).any (·.1) = false := by rfl) :
    PE X (.Call (.Attribute o name apos) (e :: es) [] cpos) (TD X.K X.mg W (mMeth chkT F mo ms)) :=
  PE.imp (pe_bmT slot hty hm ho ha hbase hfew hline hs hplain) fun σ H Q ⟨hd, μ, ρ, st, S, G⟩ => ⟨hd, μ, ρ, st, S, Good.imp (Good.bind G) (fun μ1 st1 H1 v e1 o1 G1 x rx => by
    by_cases hc : chkT v st1 = true
    · rw [if_pos hc] at G1
      refine ⟨?_, hd, μ1, ρ, st1, S.ext e1 o1, Good.imp (Good.bind G1) (fun μ2 st2 H2 vs e2 o2 G2 xs rxs => ⟨hd, μ2, st2, v, vs, o2, Rep.ext e2 _ _ rx, rxs, ?_⟩) fun _ _ h => h⟩
      · cases rx with
        | tpl h1 h2 => exact ⟨_, _, rfl, h1⟩
        | _ => cases hc
      · cases hr : F v vs st2 with
        | ok v st2 => rw [hr] at G2; exact G2
        | exc c st2 => exact absurd hr (hF _ _ _ _ _)
        | stuck => rw [hr] at G2; exact G2
    · rw [if_neg hc] at G1
      exact G1.elim) fun _ _ h => h⟩
end
def countTF : FM := fun v vs st => match v, vs with
  | .tpl us, [.int k] => match intsOf us with
    | some ns => .ok (.int (ns.count k : Nat)) st
    | none => .stuck
  | _, _ => .stuck
theorem countTF_ne : NoExcM countTF := fun v vs st c st' h => by
  unfold countTF at h
  split at h
  · split at h <;> cases h
  · cases h
def indexTF : FM := fun v vs st => match v, vs with
  | .tpl us, [.int k] => match intsOf us with
    | some ns => if k ∈ ns then .ok (.int (ns.idxOf k : Nat)) st else .stuck
    | none => .stuck
  | _, _ => .stuck
theorem indexTF_ne : NoExcM indexTF := fun v vs st c st' h => by
  unfold indexTF at h
  split at h
  · split at h
    · split at h <;> cases h
    · cases h
  · cases h
section
variable {X : Cx}
theorem countT_ok (hu : X.A.units + 64 < cLine) : MtR X "tuple.count" (rM X.K X.mg countTF) := by
  intro pins s σ H x xs v us Q I rx rxs ⟨hd, μ, st, v', vs, o, r1, r2, G⟩
  unfold countTF at G
  split at G
  · rename_i ws k
    cases hb : intsOf ws with
    | none => rw [hb] at G; exact G.elim
    | some ns =>
      rw [hb] at G
      rw [intsOf_eq hb] at r1
      cases r1 with
      | tpl h1 h2 =>
        obtain rfl := RepL.ints h2
        cases r2 with
        | cons h3 h4 =>
          cases h4
          cases h3
          obtain rfl : v = Value.ref _ := rx
          obtain ⟨u, rfl, ru⟩ := rxs.one
          obtain ⟨t, rfl⟩ := ru
          obtain ⟨its, rv, p, _⟩ := I.tuple h1.sq
          have hi := ints_of_vals rv
          obtain ⟨as, rs⟩ := hold_ints (h := s.heap) hi
          have pl : ∀ ns : List Int, PyData.plainAll (ns.map PyData.int) = true := by
            intro ns
            induction ns with
            | nil => rfl
            | cons n ns ih => simp [PyData.plainAll, PyData.plain, ih]
          have cn : ∀ ns : List Int, ((ns.map PyData.int).countP fun y => PyData.eqv y (.int k)) = ns.count k := by
            intro ns
            rw [List.countP_map, List.count]
            congr 1
          refine PySem.SeqAt.count_tuple_data (xs := ns.map PyData.int) (d := .int k) (vs := its.toArray) p (by simpa using rs) (.int k t) (pl ns) rfl (by rw [PySem.W.depth_ints]; simp [PyData.depth]; omega) ?_
          rw [cn]
          exact ⟨.int (ns.count k : Nat), H, I.tok _, ⟨_, rfl⟩, G.here o _ (.int _)⟩
  · exact G.elim
theorem indexT_ok : MtR X "tuple.index" (rM X.K X.mg indexTF) := by
  intro pins s σ H x xs v us Q I rx rxs ⟨hd, μ, st, v', vs, o, r1, r2, G⟩
  unfold indexTF at G
  split at G
  · rename_i ws k
    cases hb : intsOf ws with
    | none => rw [hb] at G; exact G.elim
    | some ns =>
      rw [hb] at G
      rw [intsOf_eq hb] at r1
      dsimp only at G
      by_cases hk : k ∈ ns
      · rw [if_pos hk] at G
        cases r1 with
        | tpl h1 h2 =>
          obtain rfl := RepL.ints h2
          cases r2 with
          | cons h3 h4 =>
            cases h4
            cases h3
            obtain rfl : v = Value.ref _ := rx
            obtain ⟨u, rfl, ru⟩ := rxs.one
            obtain ⟨t, rfl⟩ := ru
            obtain ⟨its, rv, p, _⟩ := I.tuple h1.sq
            exact PySem.SeqAt.tuple_index_ints p (ints_of_vals rv) hk ⟨.int (ns.idxOf k : Nat), H, I.tok _, ⟨_, rfl⟩, G.here o _ (.int _)⟩
      · rw [if_neg hk] at G
        exact G.elim
  · exact G.elim
end
/-! ### min of two numbers -/
def min2F : FV := fun vs st => match vs with
  | [.int i, .int j] => .ok (.int (if j < i then j else i)) st
  | _ => .stuck
theorem min2F_ne : NoExc1 min2F := fun vs st c st' h => by
  unfold min2F at h
  split at h <;> cases h
theorem min2_ok {X : Cx} (hc : X.calm = true) : CallD X (.builtin "min") min2F := by
  intro pins s σ H xs us Q I rv ⟨hd, μ, st, vs, o, r, Gd⟩
  unfold min2F at Gd
  split at Gd
  · rename_i i j
    cases r with
    | cons r1 r2 =>
      cases r2 with
      | cons r3 r4 =>
        cases r4
        cases r1
        cases r3
        exact call_min2 hc pins s σ H _ us Q I rv ⟨i, j, rfl, Gd.here o _ (.int _)⟩
  · exact Gd.elim
/-! ### max of two numbers -/
def max2F : FV := fun vs st => match vs with
  | [.int i, .int j] => .ok (.int (if i < j then j else i)) st
  | _ => .stuck
theorem max2F_ne : NoExc1 max2F := fun vs st c st' h => by
  unfold max2F at h
  split at h <;> cases h
theorem max2_ok {X : Cx} (hc : X.calm = true) : CallD X (.builtin "max") max2F := by
  intro pins s σ H xs us Q I rv ⟨hd, μ, st, vs, o, r, Gd⟩
  unfold max2F at Gd
  split at Gd
  · rename_i i j
    cases r with
    | cons r1 r2 =>
      cases r2 with
      | cons r3 r4 =>
        cases r4
        cases r1
        cases r3
        exact call_max2 hc pins s σ H _ us Q I rv ⟨i, j, rfl, Gd.here o _ (.int _)⟩
  · exact Gd.elim
end DL

/-! enumerate(tuple), zip(tuple, tuple) -/
namespace DL
open PySem PySem.Spec PyProof.Rows L2

theorem meets_enum1 {v : Value} {o : Obj} {H : Heap → Prop} (B : Begins v o H) :
    Meets (Builtin.«enumerate.__new__» ⟨[.type "enumerate", v], []⟩) (fun _ R s => H s.heap ∧
      R (.ok (.ret (.ref (s.heap.push o).objs.size))) { s with heap := (s.heap.push o).push { cls := .type "enumerate", data := .fields #[.none, .bool false, .ref s.heap.objs.size, rawInt 0, .none, .none] } }) :=
  .of_wp fun prog w A R s h => by
    obtain ⟨hp, g, d, tk, os⟩ := s; obtain ⟨h1, h⟩ := h
    have hsub := sub_enumerate
    have q1 : ∀ {A' : Around} {E : Value → Shared → Prop} {Q : Value → Shared → Prop}, Q (.ref hp.objs.size) ⟨hp.push o, g, d, tk, os⟩ → wpAny (model prog w) A' (pyIter v) Q E ⟨hp, g, d, tk, os⟩ :=
      fun q => B.iter prog w _ _ ⟨hp, g, d, tk, os⟩ _ h1 q
    wp_walk using q1
    refine wpAny_stack_any fun st => wpAny_pure ?_
    split
    · rename_i c _ _ _ _ _
      cases (c == Value.type "enumerate")
      · wp_walk using q1
        exact ⟨_, rfl, h⟩
      · wp_walk using q1
        exact ⟨_, rfl, h⟩
    · wp_walk using q1
      exact ⟨_, rfl, h⟩
theorem call_enum1 {prog : Program} {w : World} {A : Around} {E : Value → Shared → Prop} {s : Shared} {v : Value} {o : Obj} {H : Heap → Prop} {Q : Value → Shared → Prop} (B : Begins v o H) (h1 : H s.heap)
    (h : ∀ h', IsEnum h' (s.heap.objs.size + 1) s.heap.objs.size 0 .none → h'.get? s.heap.objs.size = some o → h'.objs.size = s.heap.objs.size + 2 →
      (∀ b o, s.heap.get? b = some o → h'.get? b = some o) → Q (.ref (s.heap.objs.size + 1)) { s with heap := h' }) :
    wpAny (model prog w) A (call (.type "enumerate") [v]) Q E s := by
  refine callType_new F.called_enumerate (by decide) (F.typeCall_enumerate_1 _) (F.newCall_enumerate_1 _) (fun obj => F.args_object_init_2 obj _) F.entry_enumerate_new
    (meets_enum1 B) ⟨h1, ?_⟩
  have hz : (s.heap.push o).objs.size = s.heap.objs.size + 1 := Heap.size_push ..
  show _ ∧ _
  rw [hz]
  have he : IsEnum ((s.heap.push o).push { cls := .type "enumerate", data := .fields #[.none, .bool false, .ref s.heap.objs.size, rawInt 0, .none, .none] }) (s.heap.objs.size + 1) s.heap.objs.size 0 .none := by
    have := Heap.get?_push_size (s.heap.push o) (o := { cls := .type "enumerate", data := .fields #[.none, .bool false, .ref s.heap.objs.size, rawInt 0, .none, .none] }) rfl
    rw [hz] at this; exact this
  refine ⟨⟨_, he, rfl⟩, h _ he (Heap.get?_push_of_some _ (Heap.get?_push_size _ B.free)) (by rw [Heap.size_push, hz]) fun b o x => Heap.get?_push_of_some _ (Heap.get?_push_of_some _ x)⟩

def IteT (K : PySem.W.Frag) (a : Addr) : It :=
  ⟨fun i H => ∃ (xs : List V) (x : V), SqT K H a xs ∧ xs[i]? = some x, fun i H v H' => ∃ T x, v = .ref T ∧ H T = none ∧ H' = upd H T (.tup [.int (i : Nat), x]) ∧ ∀ xs, SqT K H a xs → xs[i]? = some x, fun i H => ∃ xs : List V, SqT K H a xs ∧ xs.length ≤ i⟩
theorem turn_enumT {P : Program} {w : World} {K : PySem.W.Frag} {elts : List Expr} {kk : Nat} {tpos : Pos} (a e it : Addr) :
    Turn P w K (.Tuple elts kk tpos) (IteT K a) [e, it] e (fun i h => (∃ old, IsEnum h e it ((i : Nat) : Int) old) ∧ h.IsTupleIter it a i ∧ e ≠ it ∧ e ≠ a ∧ a ≠ it) where
  mem := by simp
  obj := fun i h st b hb => by
    obtain ⟨⟨old, he⟩, ⟨o, ho, hc, hd⟩, _⟩ := st
    have e' : b = e ∨ b = it := by simpa using hb
    rcases e' with z | z
    · rw [z]; exact ⟨_, he, fun v q => nomatch q⟩
    · rw [z]; exact ⟨o, ho, fun v q => by rw [hd] at q; cases q⟩
  keep := fun i h h' st k => let ⟨⟨old, he⟩, hi, hne⟩ := st; ⟨⟨old, k e (by simp) _ he⟩, hi.at fun o q => k it (by simp) o q, hne⟩
  item := by
    intro X hP hw hK hc i pins s σ H E I hf st hg
    subst hP hw hK
    obtain ⟨⟨old, he⟩, hit, hne, hea, hai⟩ := st
    obtain ⟨xs, x, hq, hx⟩ := hg
    obtain ⟨its, rv, p, hz⟩ := I.tuple hq
    obtain ⟨u, hu, ru⟩ := rv.get hx
    have hel : e < s.heap.objs.size := Heap.lt_size he
    have hil : it < s.heap.objs.size := by obtain ⟨_, q, _⟩ := hit; exact Heap.lt_size q
    have ui : its.toArray[i]? = some u := by simpa using hu
    have hlt : i < its.toArray.size := by
      rcases Nat.lt_or_ge i its.toArray.size with q | q
      · exact q
      · rw [Array.getElem?_eq_none q] at ui; cases ui
    have D := Draws.tuple (prog := X.prog) (w := X.w) (A := X.A.in1) (show X.A.in1.handled = none from I.ok.hd hc) it a hai its.toArray
    refine wpAny_pyNext_enum_itemD D he ⟨hit, show s.heap.IsTuple a its.toArray from p⟩ hlt hne (by simp [hne, hea]) fun x' h' tk hP ho hit' hT hsz hk => ?_
    have hxu : x' = u := by rw [ui] at hP; cases hP; rfl
    subst hxu
    refine ⟨_, rfl, wpAny_letOwnedTupleGo_enum (s := { s with heap := h', toks := tk + 1 }) ho fun h'' he' sb => ?_⟩
    have hT2 : h''.get? s.heap.objs.size = some { cls := .type "tuple", data := .seq #[.int i tk, x'] } := (sb.2 _ (Nat.ne_of_gt hel)).trans hT
    have new : ObjOk X.prog X.w (upd H s.heap.objs.size (.tup [.int (i : Nat), x])) h'' s.heap.objs.size (.tup [.int (i : Nat), x]) :=
      ⟨by show 2 ≤ sizeLine; decide, [.int i tk, x'], .cons ⟨_, rfl⟩ (.cons ru .nil), ⟨_, hT2, rfl, _, rfl⟩⟩
    have I1 : Inv X pins σ (upd H s.heap.objs.size (.tup [.int (i : Nat), x])) { s with heap := h'', toks := tk + 1 } :=
      I.turnedNew (ch := [e, it]) (fun b ob hb q => (sb.2 b (fun z => hb (by simp [z]))).trans (hk b ob (fun z => hb (by simp [z])) (fun z => hb (by simp [z])) q)) hf (Nat.le_refl _) new
    refine ⟨.ref s.heap.objs.size, _, I1, rfl, ⟨_, x, rfl, I.hok.fresh (Nat.le_refl _), rfl, fun ys hy => by rw [I.tuple_inj hy hq]; exact hx⟩, ⟨⟨x', ?_⟩, hit'.1.at fun o q => (sb.2 it (Ne.symm hne)).trans q, hne, hea, hai⟩, fun b hb => ?_⟩
    · have e1 : ((i + 1 : Nat) : Int) = (i : Int) + 1 := by omega
      rw [e1]; exact he'
    · have hb' : b < s.heap.objs.size := by
        have e' : b = e ∨ b = it := by simpa using hb
        rcases e' with z | z
        · rw [z]; exact hel
        · rw [z]; exact hil
      rw [upd_ne (Nat.ne_of_lt hb')]
      exact (hf b hb).1
  done := by
    intro X hP hw hK hc i pins s σ H E I hf st hg
    subst hP hw hK
    obtain ⟨⟨old, he⟩, hit, hne, hea, hai⟩ := st
    obtain ⟨xs, hq, hx⟩ := hg
    obtain ⟨its, rv, p, hz⟩ := I.tuple hq
    obtain ⟨f0, f1, f2, f3, f4, f5⟩ := hf it (by simp)
    have hl := rv.length
    have hT : s.TypeIs (.ref e) "enumerate" := ⟨_, he, rfl⟩
    unfold pyNext
    refine wpAny_bind (wpAny_attempt (wpAny_callSpecial?_slot (name := Str.ofString "__next__") hT F.slot_enumerate_next
      (wpAny_call_entry F.slot_enumerate_next hT F.entry_enumerate_next ?_ (F.args_enumerate_next_1 _))))
    show wpAny _ _ (field (.ref e) 2 >>= _) _ _ _
    refine wpAny_bind (wpAny_field he rfl (x := .ref it) rfl ?_)
    refine wpAny_bind (wpAny_nextOf_tuple_end (show X.A.in1.handled = none from I.ok.hd hc) hit (show s.heap.IsTuple a its.toArray from p) (by simp; omega) fun h' x he' hx' => ?_)
    obtain ⟨o, ho, hcc⟩ := hx'
    refine wpAny_bind (wpAny_isInstance (T := "StopIteration") (b := true) ⟨o, ho, hcc⟩ isSubtype_stop ?_)
    refine wpAny_pure ⟨rfl, I.turned (t' := s.toks) (fun b o hb q => he' b o hb q) f0 f1 f3 f4 f5⟩
  self := fun A i s Q E st h => let ⟨⟨_, he⟩, _⟩ := st; wpAny_pyIter_enum he h
def iEnumT (K : PySem.W.Frag) (ta : TA) : TI := fun σ H R => ta σ H fun vs H1 => ∃ a xs, vs = [.ref a] ∧ SqT K H1 a xs ∧ R (IteT K a) H1
theorem pi_enumT {X : Cx} {e : Expr} {ta : TA} {p pos tpos : Pos} {elts : List Expr} {kk : Nat} (hg : Gl X "enumerate") (hm : X.mg "enumerate" = none) (ha : PA X [e] ta) (hs : starEach [e] X.env = [(false, eval e X.env)] := by rfl) :
    PI X (.Tuple elts kk tpos) (.Call (.Name "enumerate" p) [e] [] pos) (iEnumT X.K ta) := by
  refine ⟨fun pins s σ H R I h => ?_⟩
  refine Call_ (ld_blt I hg hm boot_enumerate (PyProof.Rows.callWith_type1 (thn (ha.run pos pins s σ H _ I h) fun us s1 ⟨vs, H1, I1, r1, q1⟩ => ?_) hs rfl))
  obtain ⟨a, xs, ex, hq, q⟩ := q1
  subst ex
  cases r1 with
  | cons r rr =>
    cases rr
    cases r
    obtain ⟨its, rv, p', hz⟩ := I1.tuple hq
    obtain ⟨oa, hoa, _⟩ := id p'
    have hal : a < s1.heap.objs.size := Heap.lt_size hoa
    refine call_enum1 (begins_tuple a its.toArray) (show s1.heap.IsTuple a its.toArray from p') fun h' he hit hsz hk => wpAny_pyIter_enum he ?_
    have I2 : Inv X pins σ H1 { s1 with heap := h' } := I1.kept (t' := s1.toks) hk
    refine ⟨s1.heap.objs.size + 1, [s1.heap.objs.size + 1, s1.heap.objs.size], _, _, H1, rfl, I2, turn_enumT a (s1.heap.objs.size + 1) s1.heap.objs.size, ⟨⟨.none, he⟩, ⟨_, hit, rfl, rfl⟩, Nat.succ_ne_self _, Nat.ne_of_gt (Nat.lt_succ_of_lt hal), Nat.ne_of_lt hal⟩, fun b hb => ?_, q⟩
    have e' : b = s1.heap.objs.size + 1 ∨ b = s1.heap.objs.size := by simpa using hb
    have hle : s1.heap.objs.size ≤ b := by
      rcases e' with z | z
      · rw [z]; exact Nat.le_add_right _ _
      · rw [z]; exact Nat.le_refl _
    exact I1.fpOk hle (I1.hok.fresh hle)

/-! the layer's rules -/
def enumF : Nat → List Val → List Val
  | _, [] => []
  | k, v :: vs => .tup [.int (k : Nat), v] :: enumF (k + 1) vs
theorem enumF_len : ∀ (vs : List Val) (k : Nat), (enumF k vs).length = vs.length
  | [], _ => rfl
  | _ :: vs, k => by rw [enumF, List.length_cons, List.length_cons, enumF_len vs]
theorem enumF_get : ∀ (vs : List Val) (k i : Nat) (v : Val), vs[i]? = some v → (enumF k vs)[i]? = some (.tup [.int ((k + i : Nat) : Int), v])
  | [], _, _, _, h => by simp at h
  | w :: vs, k, 0, v, h => by simp at h; subst h; simp [enumF]
  | w :: vs, k, i + 1, v, h => by
    rw [enumF, List.getElem?_cons_succ, enumF_get vs (k + 1) i v (by simpa using h)]
    have : k + 1 + i = k + (i + 1) := by omega
    rw [this]
def zipF : List Val → List Val → List Val
  | v :: vs, w :: ws => .tup [v, w] :: zipF vs ws
  | _, _ => []
theorem zipF_len : ∀ (vs ws : List Val), (zipF vs ws).length = min vs.length ws.length
  | [], _ => by simp [zipF]
  | _ :: _, [] => by simp [zipF]
  | _ :: vs, _ :: ws => by rw [zipF, List.length_cons, zipF_len vs ws, List.length_cons, List.length_cons]; omega
theorem zipF_get : ∀ (vs ws : List Val) (i : Nat) (v w : Val), vs[i]? = some v → ws[i]? = some w → (zipF vs ws)[i]? = some (.tup [v, w])
  | [], _, _, _, _, h, _ => by simp at h
  | _ :: _, [], _, _, _, _, h => by simp at h
  | _ :: vs, _ :: ws, 0, v, w, h, k => by simp at h k; subst h; subst k; simp [zipF]
  | _ :: vs, _ :: ws, i + 1, v, w, h, k => by
    rw [zipF, List.getElem?_cons_succ]
    exact zipF_get vs ws i v w (by simpa using h) (by simpa using k)
section
variable {K : PySem.W.Frag} {mg : Str → Option Value} {hd : List Addr} {μ : List Addr} {H : Hp} {st : Sto}
theorem wk_enumT {a : Addr} {vs : List Val} {xs : List V} (h : SqT K H a xs) (r : RepL K mg hd μ H vs xs) (z : xs.length ≤ sizeLine) : Wk K mg hd μ H (IteT K a) ⟨enumF 0 vs, none⟩ where
  go hd' hh i μ' st' H' e _ _ hi := by
    have hi : i < xs.length := by rw [← r.len, ← enumF_len vs 0]; exact hi
    exact ⟨xs, xs[i], e.sqT h, List.getElem?_eq_getElem hi⟩
  stop hd' hh i μ' st' H' e _ _ hi := ⟨xs, e.sqT h, by rw [← r.len, ← enumF_len vs 0]; exact hi⟩
  yld hd' hh i μ' st' H' x H2 e o _ hy hi := by
    obtain ⟨T, y, rfl, hT, rfl, hx⟩ := hy
    obtain ⟨v, hv, rv⟩ := (RepL.ext e _ _ (RepL.rehide hh _ _ r)).get' (hx xs (e.sqT h))
    refine ⟨_, (by have := enumF_get vs 0 i v hv; rw [Nat.zero_add] at this; exact this), Ext.obj hT, o.obj hT, .tup (.inl (.inl upd_same)) (.cons (.int _) (.cons (Rep.ext (Ext.obj hT) _ _ rv) .nil))⟩
  len := by rw [enumF_len, r.len]; exact z
theorem wk_zipT {a b : Addr} {vs ws : List Val} {xs ys : List V} (h : SqT K H a xs) (r : RepL K mg hd μ H vs xs) (h2 : SqT K H b ys) (r2 : RepL K mg hd μ H ws ys) (z : xs.length ≤ sizeLine) : Wk K mg hd μ H (RZ.ItzT K a b) ⟨zipF vs ws, none⟩ where
  go hd' hh i μ' st' H' e _ _ hi := by
    have hi : i < min xs.length ys.length := by rw [← r.len, ← r2.len, ← zipF_len]; exact hi
    have h3 : i < xs.length := by omega
    have h4 : i < ys.length := by omega
    exact ⟨xs, ys, xs[i], ys[i], e.sqT h, e.sqT h2, List.getElem?_eq_getElem h3, List.getElem?_eq_getElem h4⟩
  stop hd' hh i μ' st' H' e _ _ hi := ⟨xs, ys, e.sqT h, e.sqT h2, by
    have hi : min xs.length ys.length ≤ i := by rw [← r.len, ← r2.len, ← zipF_len]; exact hi
    omega⟩
  yld hd' hh i μ' st' H' x H2 e o _ hy hi := by
    obtain ⟨T, y, y2, rfl, hT, rfl, hx, hx2⟩ := hy
    obtain ⟨v, hv, rv⟩ := (RepL.ext e _ _ (RepL.rehide hh _ _ r)).get' (hx xs (e.sqT h))
    obtain ⟨v2, hv2, rv2⟩ := (RepL.ext e _ _ (RepL.rehide hh _ _ r2)).get' (hx2 ys (e.sqT h2))
    exact ⟨_, zipF_get vs ws i v v2 hv hv2, Ext.obj hT, o.obj hT, .tup (.inl (.inl upd_same)) (.cons (Rep.ext (Ext.obj hT) _ _ rv) (.cons (Rep.ext (Ext.obj hT) _ _ rv2) .nil))⟩
  len := by rw [zipF_len, r.len]; omega
end
def enumIt : Val → Sto → Res Walk
  | .tup vs, st => .ok ⟨enumF 0 vs, none⟩ st
  | .tpk vs, st => .ok ⟨enumF 0 vs, none⟩ st
  | _, _ => .stuck
def mEnumT (m : ME) : MI := fun ρ st => (m ρ st).bind enumIt
def zipIt : Val → Val → Sto → Res Walk
  | .tup vs, .tup ws, st => .ok ⟨zipF vs ws, none⟩ st
  | _, _, _ => .stuck
def mZipT (a b : ME) : MI := fun ρ st => (a ρ st).bind fun v st1 => (b ρ st1).bind fun w st2 => zipIt v w st2
section
variable {X : Cx} {W : WX} {m : ME}
theorem di_enumT {a : Expr} {p pos tpos : Pos} {elts : List Expr} {kk : Nat} (hg : Gl X "enumerate") (hm : X.mg "enumerate" = none) (ha : PE X a (TD X.K X.mg W m)) (hs : starEach [a] X.env = [(false, eval a X.env)] := by rfl) :
    PI X (.Tuple elts kk tpos) (.Call (.Name "enumerate" p) [a] [] pos) (TDI X.K X.mg W (mEnumT m)) :=
  PI.imp (pi_enumT hg hm (pa_cons (PE.facts (F := fun _ H => Sz X.K H) ha fun _ _ _ _ _ I => sz_of I) pa_nil hs) hs) fun σ H R ⟨hd, μ, ρ, st, S, G⟩ => ⟨hd, μ, ρ, st, S, Good.imp (Good.bind G) (fun μ1 st1 H1 v e1 o1 G1 x rx z => by
    cases rx with
    | tup r1 r2 => exact ⟨_, _, rfl, r1, G1.here o1 _ (wk_enumT r1 r2 (z _ _ (.inr r1)))⟩
    | tpk r1 r2 r0 r3 => exact ⟨_, _, rfl, .inl (.inl r1), G1.here o1 _ (wk_enumT (.inl (.inl r1)) r3 (z _ _ (.inr (.inl (.inl r1)))))⟩
    | _ => exact G1.elim) fun _ _ h => h⟩
theorem di_zipT {a b : Expr} {ma mb : ME} {p pos tpos : Pos} {elts : List Expr} {kk : Nat} (hg : Gl X "zip") (hm : X.mg "zip" = none) (ha : PE X a (TD X.K X.mg W ma)) (hb : PE X b (TD X.K X.mg W mb)) (hs : starEach [a, b] X.env = (false, eval a X.env) :: starEach [b] X.env := by rfl) (hs2 : starEach [b] X.env = [(false, eval b X.env)] := by rfl)
    (hpl : (backTo pos (starEach [b] X.env)).any (·.1) = false := by rfl) :
    PI X (.Tuple elts kk tpos) (.Call (.Name "zip" p) [a, b] [] pos) (TDI X.K X.mg W (mZipT ma mb)) :=
  PI.imp (RZ.pi_zipA hg hm (pa_cons ha (pa_cons (PE.facts (F := fun _ H => Sz X.K H) hb fun _ _ _ _ _ I => sz_of I) pa_nil hs2) (by rw [hs])) hs hpl) fun σ H R ⟨hd, μ, ρ, st, S, G⟩ => ⟨hd, μ, ρ, st, S, Good.imp (Good.bind G) (fun μ1 st1 H1 v e1 o1 G1 x rx =>
    ⟨hd, μ1, ρ, st1, S.ext e1 o1, Good.imp (Good.bind G1) (fun μ2 st2 H2 w e2 o2 G2 y ry z => by
      cases rx with
      | tup r1 r2 =>
        cases ry with
        | tup r3 r4 => exact ⟨_, _, _, _, rfl, .inr ⟨e2.sqT r1, r3, G2.here o2 _ (wk_zipT (e2.sqT r1) (RepL.ext e2 _ _ r2) r3 r4 (z _ _ (.inr (e2.sqT r1))))⟩⟩
        | _ => exact G2.elim
      | _ => cases ry <;> exact G2.elim) fun _ _ h => h⟩) fun _ _ h => h⟩
end
end DL

/-! Tuples that a program made, as keys of a dict. -/
namespace DL
open PySem PySem.Spec PyProof.Rows L2
section
variable {X : Cx} {W : WX} {pos : Pos}
def mTupK (ms : MA) : ME := fun ρ st => (ms ρ st).bind fun vs st1 => if vs.length ≤ sizeLine then .ok (.tpk vs) st1 else .stuck
theorem d_tupK {es : List Expr} {k} {ms : MA} (h : PA X es (TDA X.K X.mg W ms)) : PE X (.Tuple es k pos) (TD X.K X.mg W (mTupK ms)) :=
  PE.imp (pe_tup h) fun σ H Q ⟨hd, μ, ρ, st, S, G⟩ => ⟨hd, μ, ρ, st, S, Good.imp (Good.bind G) (fun μ1 st1 H1 vs e1 o1 G1 xs rxs => by
    by_cases hz : vs.length ≤ sizeLine
    · rw [if_pos hz] at G1
      refine ⟨by rw [← rxs.len]; exact hz, fun p hp => ?_⟩
      exact G1 μ1 _ (Ext.obj hp) (o1.obj hp) _ (.tpk upd_same (nin_of o1 hp) (nhid_of o1 hp) (RepL.ext (Ext.obj hp) _ _ rxs))
    · rw [if_neg hz] at G1
      exact G1.elim) fun _ _ h => h⟩
/-- t + u, u not empty -/
def addKF (v w : Val) (st : Sto) : Res Val := match v, w with
  | .tup [], .tpk ws => .ok (.tpk ws) st
  | .tpk (v :: vs), .tpk (w :: ws) => if (v :: vs).length + (w :: ws).length ≤ sizeLine then .ok (.tpk ((v :: vs) ++ (w :: ws))) st else .stuck
  | _, _ => .stuck
theorem addKF_ne : NoExc2 addKF := fun v w st c st' h => by
  unfold addKF at h
  split at h
  · cases h
  · split at h <;> cases h
  · cases h
theorem addKF_ok : OpD X (binaryOp .Add) addKF := by
  intro pins s σ H x y v u Q I rv ru ⟨hd, μ, st, v', w', o, r1, r2, G⟩
  unfold addKF at G
  split at G
  · cases r1 with
    | tup h1 h2 =>
      cases h2
      cases r2 with
      | tpk h3 h5 h0 h4 =>
        have h3' : SqT X.K H _ _ := .inl (.inl h3)
        refine op_catA pins s σ H _ _ v u Q I rv ru ⟨_, _, [], _, rfl, rfl, h1, h3', ?_, fun _ => G.here o _ (.tpk h3 h5 h0 h4), fun e => absurd rfl e, fun e => absurd rfl e⟩
        have hz := sz_of I _ _ (.inr h3')
        simpa using hz
  · split at G
    · rename_i hz
      cases r1 with
      | tpk h1 h6 h7 h2 =>
        cases r2 with
        | tpk h3 h5 h0 h4 =>
          refine op_catA pins s σ H _ _ v u Q I rv ru ⟨_, _, _, _, rfl, rfl, .inl (.inl h1), .inl (.inl h3), by rw [← h2.len, ← h4.len]; exact hz, fun z => ?_, fun _ z => ?_, fun _ _ p hp => ?_⟩
          · subst z; cases h2
          · subst z; cases h4
          · exact G μ _ (Ext.obj hp) (o.obj hp) _ (.tpk upd_same (nin_of o hp) (nhid_of o hp) (RepL.ext (Ext.obj hp) _ _ (h2.append h4)))
    · exact G.elim
  · exact G.elim
end
/-! ### keys -/
def keysD : List Val → Option (List Key)
  | [] => some []
  | v :: vs => match keyD v, keysD vs with
    | some k, some ks => some (k :: ks)
    | _, _ => none
def keyT : Val → Option (List Key)
  | .tpk vs => keysD vs
  | _ => none
def ditOf (v : Val) (st : Sto) : Option (List (List Key × V)) := match v with
  | .ref l => match st[l]? with
    | some (.dit kvs) => some kvs
    | _ => none
  | _ => none
section
variable {K : PySem.W.Frag} {mg : Str → Option Value} {hd : List Addr} {μ : List Addr} {H : Hp} {st : Sto}
theorem RepL.keysD : ∀ {vs : List Val} {xs : List V} {ks : List Key}, RepL K mg hd μ H vs xs → DL.keysD vs = some ks → xs = ks.map kV
  | _, _, _, .nil, h => by cases h; rfl
  | v :: vs, _, _, .cons h1 h2, h => by
    simp only [DL.keysD] at h
    cases hq : keyD v with
    | none => rw [hq] at h; cases h
    | some d =>
      cases hr : DL.keysD vs with
      | none => rw [hq, hr] at h; cases h
      | some ds =>
        rw [hq, hr] at h
        cases h
        rw [h1.key hq, RepL.keysD h2 hr, List.map_cons]
theorem Rep.keyT {v : Val} {x : V} {ks : List Key} (r : Rep K mg hd μ H v x) (h : DL.keyT v = some ks) : ∃ b, x = .ref b ∧ H b = some (.tup (ks.map kV)) := by
  cases r with
  | tpk h1 h2 h0 h3 =>
    have := RepL.keysD h3 h
    subst this
    exact ⟨_, rfl, h1⟩
  | _ => cases h
theorem ditOf_at (o : StoOk K mg hd μ st H) {v : Val} {x : V} {kvs : List (List Key × V)} (r : Rep K mg hd μ H v x) (e : ditOf v st = some kvs) : ∃ a l, v = .ref l ∧ x = .ref a ∧ μ[l]? = some a ∧ H a = some (.dT kvs) := by
  cases r with
  | @ref l a hl =>
    unfold ditOf at e
    cases hc : st[l]? with
    | none => simp only [hc] at e; cases e
    | some c =>
      cases c with
      | dit ks =>
        simp only [hc] at e
        cases e
        exact ⟨a, l, rfl, rfl, hl, o.cell l a _ hl hc⟩
      | _ => simp only [hc] at e; cases e
  | _ => cases e
end
/-! ### {} -/
def mD0T : MC := fun _ st => .ok (.dit []) st
theorem df_dnewT {X : Cx} {W : WX} {pos : Pos} : PE X (.Dict [] [] pos) (TDF X.K X.mg W mD0T) := PE.imp pe_dnewT fun σ H Q ⟨hd, μ, ρ, st, S, G⟩ p hp => by
  have o := S.sto
  have o2 := o.obj (o := .dT []) hp
  have k : CellOk X.K X.mg hd μ (upd H p (.dT [])) p (.dit []) := upd_same
  exact G μ _ (Ext.obj hp) o2 p hp (nin_of o hp) (nhid_of o hp) k (o.new hp (show CellOk X.K X.mg hd (μ ++ [p]) (upd H p (.dT [])) p (.dit []) from upd_same))
/-! ### d[k] -/
def dgetTF (v k : Val) (st : Sto) : Res Val := match ditOf v st, keyT k with
  | some kvs, some q => match (valV kvs q).bind ofV with
    | some u => .ok u st
    | none => .stuck
  | _, _ => .stuck
theorem d_dixT {X : Cx} {W : WX} {a b : Expr} {pos : Pos} {ma mb : ME} (hu : X.A.units + 64 < cLine) (ha : PE X a (TD X.K X.mg W ma)) (hb : PE X b (TD X.K X.mg W mb)) (hs : NoSl b := by exact fun _ _ => rfl) : PE X (.Subscript a b pos) (TD X.K X.mg W (mOp dgetTF ma mb)) :=
  PE.imp (pe_dget (by omega) ha hb hs) fun σ H Q h => by
    have hne : NoExc2 dgetTF := fun v w st c st' h => by
      unfold dgetTF at h
      split at h
      · split at h <;> cases h
      · cases h
    obtain ⟨hd, μ, ρ, st, S, G⟩ := tOp_of hne h
    refine ⟨hd, μ, ρ, st, S, Good.imp G (fun μ1 st1 H1 v e1 o1 k x rx => ?_) fun _ _ h => h⟩
    obtain ⟨hd2, μ2, ρ2, st2, S2, G2⟩ := k x rx
    refine ⟨hd2, μ2, ρ2, st2, S2, Good.imp G2 (fun μ3 st3 H3 w e3 o3 k3 y ry => ?_) fun _ _ h => h⟩
    obtain ⟨hd4, μ4, st4, v4, w4, o4, r1, r2, G4⟩ := k3 y ry
    unfold dgetTF at G4
    cases hq : ditOf v4 st4 with
    | none => rw [hq] at G4; exact G4.elim
    | some kvs =>
      cases hk : keyT w4 with
      | none => rw [hq, hk] at G4; exact G4.elim
      | some q =>
        rw [hq, hk] at G4
        dsimp only at G4
        cases hv : valV kvs q with
        | none => rw [hv] at G4; exact G4.elim
        | some u =>
          rw [hv] at G4
          simp only [Option.bind] at G4
          cases hu2 : ofV u with
          | none => rw [hu2] at G4; exact G4.elim
          | some z =>
            rw [hu2] at G4
            obtain ⟨p, l, _, rfl, _, rd⟩ := ditOf_at o4 r1 hq
            obtain ⟨b, rfl, hb⟩ := r2.keyT hk
            exact ⟨p, u, rfl, .inr ⟨kvs, q, b, .inl rd, rfl, hb, hv.symm⟩, G4.here o4 u (rep_ofV hu2)⟩
/-! ### k not in d -/
def niTF (k v : Val) (st : Sto) : Res Val := match ditOf v st, keyT k with
  | some kvs, some q => .ok (.bl (!(valV kvs q).isSome)) st
  | _, _ => .stuck
theorem niTF_ne : NoExc2 niTF := fun v w st c st' h => by
  unfold niTF at h
  split at h <;> cases h
theorem niTF_ok {X : Cx} (hu : X.A.units + 64 < cLine) : OpD X (compareOp .NotIn) niTF := by
  intro pins s σ H x y v u Q I rv ru ⟨hd, μ, st, v', w', o, r1, r2, G⟩
  unfold niTF at G
  cases hq : ditOf w' st with
  | none => rw [hq] at G; exact G.elim
  | some kvs =>
    cases hk : keyT v' with
    | none => rw [hq, hk] at G; exact G.elim
    | some q =>
      rw [hq, hk] at G
      obtain ⟨p, l, _, rfl, _, rd⟩ := ditOf_at o r2 hq
      obtain ⟨b, rfl, hb⟩ := r1.keyT hk
      obtain rfl : u = Value.ref p := ru
      exact d_notIn (by omega) I (DGet.t rd hb) rv fun s' I' => ⟨.bl _, H, I', rfl, G.here o _ (.bl _)⟩
/-! ### d[k] = v -/
def mDPutT (mo mi mv : ME) : MS := fun ρ st => withE (mv ρ st) ρ fun w st1 => withE (mo ρ st1) ρ fun v st2 => withE (mi ρ st2) ρ fun k st3 => match v, keyT k, flatD w with
  | .ref l, some q, some x => (match st3[l]? with
    | some (.dit kvs) => if kvs.length < sizeLine then .next ρ (st3.set l (.dit (putK kvs q x))) else .stuck
    | _ => .stuck)
  | _, _, _ => .stuck
theorem set_dit {K : PySem.W.Frag} {mg : Str → Option Value} {hd : List Addr} {μ : List Addr} {H : Hp} {st : Sto} (o : StoOk K mg hd μ st H) {l : Nat} {a : Addr} {kvs kvs' : List (List Key × V)} (hl : μ[l]? = some a) (h : H a = some (.dT kvs)) :
    Ext μ H μ (upd H a (.dT kvs')) ∧ StoOk K mg hd μ (st.set l (.dit kvs')) (upd H a (.dT kvs')) := by
  have e : Ext μ H μ (upd H a (.dT kvs')) := Ext.set (List.mem_of_getElem? hl) h trivial
  exact ⟨e, o.set hl h trivial upd_same⟩
theorem ds_dputT {X : Cx} {W : WX} {a b e : Expr} {pos tpos : Pos} {mo mi mv : ME} (hu : X.A.units + 64 < cLine) (hv : PE X e (TD X.K X.mg W mv)) (ho : PE X a (TD X.K X.mg W mo)) (hi : PE X b (TD X.K X.mg W mi))
    (hs : swapsWith e (some (.Subscript a b tpos)) pos.line X.env = pure false := by rfl) : PS X (.Assign [.Subscript a b tpos] e pos) (TDS X.K X.mg W (mDPutT mo mi mv)) :=
  PS.imp (ps_dput (by omega) ho hi hv hs) fun D σ H h => by
    obtain ⟨hd, μ, ρ, st, S, G⟩ := TDS_def.mp h
    refine ⟨hd, μ, ρ, st, S, ?_⟩
    unfold mDPutT at G
    cases hr : mv ρ st with
    | stuck => rw [hr] at G; exact G
    | exc c st1 => rw [hr] at G; exact fun μ1 H1 e1 o1 => G μ1 H1 σ e1 (S.ext e1 o1)
    | ok w st1 =>
      rw [hr] at G
      intro μ1 H1 e1 o1 xw rxw
      have S1 := S.ext e1 o1
      have G := GoodS.ext G e1
      refine ⟨hd, μ1, ρ, st1, S1, ?_⟩
      simp only [withE] at G
      cases hr2 : mo ρ st1 with
      | stuck => rw [hr2] at G; exact G
      | exc c st2 => rw [hr2] at G; exact fun μ2 H2 e2 o2 => G μ2 H2 σ e2 (S1.ext e2 o2)
      | ok v st2 =>
        rw [hr2] at G
        intro μ2 H2 e2 o2 xv rxv
        have S2 := S1.ext e2 o2
        have G := GoodS.ext G e2
        refine ⟨hd, μ2, ρ, st2, S2, ?_⟩
        dsimp only at G
        cases hr3 : mi ρ st2 with
        | stuck => rw [hr3] at G; exact G
        | exc c st3 => rw [hr3] at G; exact fun μ3 H3 e3 o3 => G μ3 H3 σ e3 (S2.ext e3 o3)
        | ok k st3 =>
          rw [hr3] at G
          intro μ3 H3 e3 o3 xk rxk
          have S3 := S2.ext e3 o3
          have G := GoodS.ext G e3
          dsimp only at G
          have rxv := Rep.ext e3 _ _ rxv
          have rxw := Rep.ext (e2.trans e3) _ _ rxw
          cases rxv with
          | @ref l p hl =>
            cases hk : keyT k with
            | none => rw [hk] at G; exact G.elim
            | some q =>
              cases hw : flatD w with
              | none => rw [hk, hw] at G; exact G.elim
              | some x =>
                rw [hk, hw] at G
                dsimp only at G
                cases hc : st3[l]? with
                | none => rw [hc] at G; exact G.elim
                | some c =>
                  rw [hc] at G
                  cases c with
                  | dit kvs =>
                    dsimp only at G
                    by_cases hz : kvs.length < sizeLine
                    · rw [if_pos hz] at G
                      have hH : H3 p = some (.dT kvs) := o3.cell l p _ hl hc
                      obtain ⟨e4, o4⟩ := set_dit (kvs' := putK kvs q x) o3 hl hH
                      obtain ⟨rfl, _⟩ := rxw.flat hw
                      obtain ⟨b, rfl, hb⟩ := rxk.keyT hk
                      exact ⟨p, _, rfl, .inr ⟨kvs, q, b, hH, rfl, hb, hz, rfl⟩, G μ3 _ σ e4 (S3.ext e4 o4)⟩
                    · rw [if_neg hz] at G
                      exact G.elim
                  | _ => exact G.elim
          | _ => exact G.elim
end DL

/-! A def that calls itself; list(range(..)); len(set(tuple of ints)); xs[i] op= e. -/
namespace DL
open PySem PySem.Spec PyProof.Rows L2
theorem refines_stuck {F B : FV} (h : ∀ args st, F args st = .stuck) : Refines F B := fun args st _ _ => by
  rw [h]
  trivial
/-! ### list(range(..)) -/
theorem repL_rng {K : PySem.W.Frag} {mg : Str → Option Value} {hd μ : List Addr} {H : Hp} (lo : Int) (n : Nat) : RepL K mg hd μ H (rng lo n) ((List.range n).map fun i => V.int (lo + (i : Nat))) := by
  unfold rng
  induction List.range n with
  | nil => exact .nil
  | cons a l ih => exact .cons (.int _) ih
noncomputable def mListR1 (m : ME) : ME := fun ρ st => (m ρ st).bind fun v st1 => match v with
  | .int n => @ite _ (0 ≤ n ∧ n ≤ 1000000) (Classical.propDecidable _) (.ok (.lst (rng 0 n.toNat)) st1) .stuck
  | _ => .stuck
noncomputable def mListR2 (a b : ME) : ME := fun ρ st => (a ρ st).bind fun v st1 => (b ρ st1).bind fun w st2 => match v, w with
  | .int i, .int j => @ite _ (0 ≤ i ∧ i ≤ 1000000 ∧ 0 ≤ j ∧ j ≤ 1000000) (Classical.propDecidable _) (.ok (.lst (rng i (j - i).toNat)) st2) .stuck
  | _, _ => .stuck
section
variable {X : Cx} {W : WX} {a b : Expr} {p p2 pos pos2 : Pos} {m ma mb : ME}
theorem d_listR1 (hc : X.calm = true) (hg : Gl X "list") (hm : X.mg "list" = none) (hg2 : Gl X "range") (hm2 : X.mg "range" = none) (ha : PE X a (TD X.K X.mg W m))
    (na : starEach [a] X.env = (false, eval a X.env) :: starEach [] X.env := by rfl)
    (nb : starEach [.Call (.Name "range" p2) [a] [] pos2] X.env = (false, eval (.Call (.Name "range" p2) [a] [] pos2) X.env) :: starEach [] X.env := by rfl) :
    PE X (.Call (.Name "list" p) [.Call (.Name "range" p2) [a] [] pos2] [] pos) (TD X.K X.mg W (mListR1 m)) :=
  PE.imp (pe_listRg hc hg hm (prg_1 hg2 hm2 ha na) nb) fun σ H Q ⟨hd, μ, ρ, st, S, G⟩ => ⟨hd, μ, ρ, st, S, Good.imp (Good.bind G) (fun μ1 st1 H1 v e1 o1 G1 x rx => by
    cases rx with
    | int n =>
      by_cases hn : 0 ≤ n ∧ n ≤ 1000000
      · simp only [if_pos hn] at G1
        refine ⟨n, rfl, RgOk.of_le (by omega) (by omega) (by omega) (by omega), fun q hq => ?_⟩
        refine G1 μ1 _ (Ext.obj hq) (o1.obj hq) _ (.lst upd_same (nin_of o1 hq) (nhid_of o1 hq) ?_)
        have e : (n - 0).toNat = n.toNat := by omega
        unfold rgV
        rw [e]
        exact repL_rng 0 _
      · simp only [if_neg hn] at G1
        exact G1.elim
    | _ => exact G1.elim) fun _ _ h => h⟩
theorem d_listR2 (hc : X.calm = true) (hg : Gl X "list") (hm : X.mg "list" = none) (hg2 : Gl X "range") (hm2 : X.mg "range" = none) (ha : PE X a (TD X.K X.mg W ma)) (hb : PE X b (TD X.K X.mg W mb))
    (na : starEach [a, b] X.env = (false, eval a X.env) :: starEach [b] X.env := by rfl) (nb' : starEach [b] X.env = (false, eval b X.env) :: starEach [] X.env := by rfl)
    (nb : starEach [.Call (.Name "range" p2) [a, b] [] pos2] X.env = (false, eval (.Call (.Name "range" p2) [a, b] [] pos2) X.env) :: starEach [] X.env := by rfl) (hpl : (backTo pos2 (starEach [b] X.env)).any (·.1) = false := by rfl) :
    PE X (.Call (.Name "list" p) [.Call (.Name "range" p2) [a, b] [] pos2] [] pos) (TD X.K X.mg W (mListR2 ma mb)) :=
  PE.imp (pe_listRg hc hg hm (prg_2 hg2 hm2 ha hb na nb' hpl) nb) fun σ H Q ⟨hd, μ, ρ, st, S, G⟩ => ⟨hd, μ, ρ, st, S, Good.imp (Good.bind G) (fun μ1 st1 H1 v e1 o1 G1 x rx =>
    ⟨hd, μ1, ρ, st1, S.ext e1 o1, Good.imp (Good.bind G1) (fun μ2 st2 H2 w e2 o2 G2 y ry => by
      cases ry with
      | int j =>
        cases rx with
        | int i =>
          by_cases hn : 0 ≤ i ∧ i ≤ 1000000 ∧ 0 ≤ j ∧ j ≤ 1000000
          · simp only [if_pos hn] at G2
            refine ⟨i, j, rfl, rfl, RgOk.of_le (by omega) (by omega) (by omega) (by omega), fun q hq => ?_⟩
            exact G2 μ2 _ (Ext.obj hq) (o2.obj hq) _ (.lst upd_same (nin_of o2 hq) (nhid_of o2 hq) (repL_rng i _))
          · simp only [if_neg hn] at G2
            exact G2.elim
        | _ => exact G2.elim
      | _ => cases v <;> exact G2.elim) fun _ _ h => h⟩) fun _ _ h => h⟩
end
/-! ### len(set(t)), t a tuple of ints -/
/-- each once -/
def dd : List Int → List Int
  | [] => []
  | a :: l => if a ∈ l then dd l else a :: dd l
theorem mem_dd {k : Int} : ∀ {l : List Int}, k ∈ dd l ↔ k ∈ l
  | [] => Iff.rfl
  | a :: l => by
    unfold dd
    by_cases h : a ∈ l
    · rw [if_pos h, mem_dd, List.mem_cons]
      exact ⟨.inr, fun z => z.elim (fun e => e ▸ h) id⟩
    · rw [if_neg h, List.mem_cons, List.mem_cons, mem_dd]
theorem nodup_dd : ∀ l : List Int, (dd l).Nodup
  | [] => List.nodup_nil
  | a :: l => by
    unfold dd
    by_cases h : a ∈ l
    · rw [if_pos h]; exact nodup_dd l
    · rw [if_neg h, List.nodup_cons]; exact ⟨fun z => h (mem_dd.mp z), nodup_dd l⟩
theorem len_of_mems {α : Type} [BEq α] [LawfulBEq α] {l m : List α} (h1 : l.Nodup) (h2 : m.Nodup) (h : ∀ k, k ∈ l ↔ k ∈ m) : l.length = m.length :=
  ((List.perm_ext_iff_of_nodup h1 h2).mpr h).length_eq
def mLenSet (m : ME) : ME := fun ρ st => (m ρ st).bind fun v st1 => match v with
  | .tup vs => (match intsOf vs with
    | some ns => if ns.length ≤ 1000 then .ok (.int ((dd ns).length : Nat)) st1 else .stuck
    | none => .stuck)
  | _ => .stuck
section
variable {X : Cx} {W : WX} {a : Expr} {p p2 q pos : Pos} {m : ME}
theorem d_lenSet (hc : X.calm = true) (hg : Gl X "len") (hm : X.mg "len" = none) (hg2 : Gl X "set") (hm2 : X.mg "set" = none) (ha : PE X a (TD X.K X.mg W m))
    (na : starEach [a] X.env = (false, eval a X.env) :: starEach [] X.env := by rfl) : PE X (.Call (.Name "len" p) [.Call (.Name "set" p2) [a] [] q] [] pos) (TD X.K X.mg W (mLenSet m)) := by
  refine ⟨fun pins s σ H Q I ⟨hd, μ, ρ, st, S, G⟩ => ?_⟩
  refine Call_ (ld_blt I hg hm boot_len ?_)
  refine PyProof.Rows.callWith_builtin1 (PyProof.Rows.args_cons ?_ rfl) rfl rfl
  refine Call_ (ld_blt I hg2 hm2 boot_set ?_)
  have T : TD X.K X.mg W m σ H (fun x H1 => ∃ (l : Addr) (ns : List Int), x = .ref l ∧ SqT X.K H1 l (ns.map V.int) ∧ ns.length ≤ 1000 ∧ Q (.int ((dd ns).length : Nat)) H1) := by
    refine ⟨hd, μ, ρ, st, S, Good.imp (Good.bind G) (fun μ1 st1 H1 v e1 o1 G1 x rx => ?_) fun _ _ h => h⟩
    cases rx with
    | @tup l xs vs h1 h2 =>
      dsimp only at G1
      cases hi : intsOf vs with
      | none => rw [hi] at G1; exact G1.elim
      | some ns =>
        rw [hi] at G1
        dsimp only at G1
        by_cases hz : ns.length ≤ 1000
        · rw [if_pos hz] at G1
          rw [intsOf_eq hi] at h2
          have := RepL.ints h2
          subst this
          exact ⟨l, ns, rfl, h1, hz, G1.here o1 _ (.int _)⟩
        · rw [if_neg hz] at G1
          exact G1.elim
    | _ => exact G1.elim
  refine PyProof.Rows.callWith_type1 (PyProof.Rows.args_cons (thn (ha.run pins s σ H _ I T) fun v s1 ⟨x, H1, I1, r1, q1⟩ => PyProof.Rows.args_nil ?_) na) na rfl
  obtain ⟨l, ns, rfl, hq, hl, q1⟩ := q1
  cases r1
  obtain ⟨its, r, pl, hz⟩ := I1.tuple hq
  have hi : IntsAre its.toArray.toList ns := ints_of_vals r
  refine call_set_tupI ns (I1.ok.hd hc) (show s1.heap.IsTuple l its.toArray from pl) hi (by unfold scanBound; omega) fun h' tk c R hcn k => ?_
  refine PyProof.Rows.args_nil ?_
  obtain ⟨o, es, ep, t, ho, hex, hd', _, nd, mem, hb, hf, hn, _, _⟩ := R
  have hlen : es.size = (dd ns).length := by
    have := len_of_mems nd (nodup_dd ns) fun j => by rw [← mem j, mem_dd]; simp
    rw [List.length_map, Array.length_toList] at this
    exact this
  have I2 : Inv X pins σ H1 { s1 with heap := h', toks := tk } := I1.kept fun b o e => k b o e
  exact call_len_set ho hex hd' hf (by omega) ⟨.int ((dd ns).length : Nat), H1, I2.tok _, ⟨_, by rw [hlen]⟩, q1⟩
end
/-! ### xs[i] op= e, xs a list -/
theorem get_list {X : Cx} : PGet X (rIxL X.K) := by
  intro pins s σ H x y v u Q I rx ry h
  obtain ⟨p, xs, i, z, rfl, rfl, hq, he, q⟩ := h
  cases rx
  obtain ⟨t, rfl⟩ := ry
  obtain ⟨its, r, pl, hz⟩ := I.list hq
  obtain ⟨j, h1, h2, h3, h4, h5⟩ := atI_get he
  obtain ⟨w, ew, rw'⟩ := r.get h2
  have hl := r.length
  have hn := line63
  have fin : EP X pins σ Q w s := ⟨z, H, I, rw', q⟩
  by_cases h0 : 0 ≤ i
  · have hj : i.toNat = j := by
      rw [seqIndex_of h0 h5] at h1
      exact Option.some.inj h1
    exact wpAny_getItem_list pl.isList h0 (by omega) (by rw [hj]; simpa using ew) fin
  · have hj : (i + (its.toArray.size : Int)).toNat = j := by
      rw [seqIndex_neg (by omega) h4] at h1
      rw [List.size_toArray, ← hl]
      exact Option.some.inj h1
    exact wpAny_getItem_list_neg pl.isList (by omega) (by rw [List.size_toArray] <;> omega) (by omega) (by rw [hj]; simpa using ew) fin
def mAugIx (mo mi me : ME) : MS := fun ρ st => withE (mo ρ st) ρ fun v st1 => withE (mi ρ st1) ρ fun i st2 => match v, i with
  | .ref l, .int k => (match (lstAt st2 l).bind fun ws => L2.atI ws k with
    | some (.int x) => withE (me ρ st2) ρ fun y st3 => (match y, lstAt st3 l with
      | .int y, some ws => (match ixN ws.length k with
        | some j => .next ρ (st3.set l (.lst (ws.set j (.int (x + y)))))
        | none => .stuck)
      | _, _ => .stuck)
    | _ => .stuck)
  | _, _ => .stuck
theorem ds_augix {X : Cx} {W : WX} {a b e : Expr} {pos tpos : Pos} {mo mi me : ME} (ho : PE X a (TD X.K X.mg W mo)) (hi : PE X b (TD X.K X.mg W mi)) (he : PE X e (TD X.K X.mg W me))
    (ha : ∀ ov iv new, augStore b ov iv new = (do holding [new, ov, iv] (setItem ov iv new); release [new, ov, iv] []; pure .next) := by intros; rfl) :
    PS X (.AugAssign (.Subscript a b tpos) .Add e pos) (TDS X.K X.mg W (mAugIx mo mi me)) :=
  PS.imp (ps_augS ho hi get_list he ip_add set_list ha) fun D σ H h => by
    obtain ⟨hd, μ, ρ, st, S, G⟩ := TDS_def.mp h
    refine ⟨hd, μ, ρ, st, S, Good.imp (withE_of S G) (fun μ1 st1 H1 v e1 o1 G1 x rx => ?_) fun _ _ h => h⟩
    have S1 := S.ext e1 o1
    refine ⟨hd, μ1, ρ, st1, S1, Good.imp (withE_of S1 G1.2) (fun μ2 st2 H2 i e2 o2 G2 y ry => ?_) fun _ _ h => h⟩
    have S2 := S1.ext e2 o2
    have G2 := G2.2
    split at G2
    · rename_i l k _
      cases hq : lstAt st2 l with
      | none => simp only [hq, Option.bind] at G2; exact G2.elim
      | some ws =>
        simp only [hq, Option.bind] at G2
        cases hx : L2.atI ws k with
        | none => simp only [hx] at G2; exact G2.elim
        | some u =>
          cases u with
          | int x0 =>
            simp only [hx] at G2
            cases (Rep.ext e2 _ _ rx) with
            | ref hl =>
              cases ry
              obtain ⟨ys, h2, h3⟩ := lstAt_ok o2 hl hq
              obtain ⟨z, hz, rz⟩ := h3.atI hx
              cases rz
              refine ⟨_, ys, k, _, rfl, rfl, SqL.of h2, hz, ?_⟩
              refine ⟨hd, μ2, ρ, st2, S2, Good.imp (withE_of S2 G2) (fun μ3 st3 H3 w e3 o3 G3 y ry => ?_) fun _ _ h => h⟩
              have S3 := S2.ext e3 o3
              have G3 := G3.2
              split at G3
              · rename_i y0 ws3 hq3 _
                cases ry
                cases hj : ixN ws3.length k with
                | none => simp only [hj] at G3; exact G3.elim
                | some j =>
                  simp only [hj] at G3
                  obtain ⟨zs, h4, h5⟩ := lstAt_ok o3 (e3.idx hl) hq3
                  obtain ⟨e, o'⟩ := set_lst o3 (e3.idx hl) h4 (RepL.set (.int (x0 + y0)) j h5)
                  exact ⟨x0, y0, rfl, rfl, _, zs, k, j, rfl, rfl, h4, by rw [← h5.len]; exact hj, G3 μ3 _ σ e (S3.ext e o')⟩
              · exact G3.elim
          | _ => simp only [hx] at G2; exact G2.elim
    · exact G2.elim
/-- the same of two lists -/
theorem which_reads2 {X : Cx} {p : Addr × Obj} {j : Nat} {b1 b2 : List Bool} {Q : VK} {H : Hp} (hc : (b1 ++ b2).count true = 1) (hj : (b1 ++ b2)[j]? = some true) (hm : ∀ m, m < j → (b1 ++ b2)[m]? ≠ some true) (hz : (b1 ++ b2).length ≤ 100)
    (q : ∀ a H', (∀ b o, H b = some o → H' b = some o) → H a = none → H' a = some (.tup [.str "refused", .int (j : Nat)]) → Q (.ref a) H') :
    tSeq (tAsg (tLst (tBs p b1)) (gName 1)) (tSeq (tDrop (tBM X.K "list" rExtend (tVar 1) (tCons (tLst (tBs p b2)) tNil)))
      (tSeq (tIfS (tOr (tTest (tOp rNe (tBM X.K "list" (fun x xs H Q => ∃ (a : Addr) (bs : List Bool), x = V.ref a ∧ xs = [V.bl true] ∧ SqL X.K H a (bs.map V.bl) ∧ Q (.int (bs.count true : Nat)) H) (tVar 1) (tCons (tC (.bl true)) tNil)) (tC (.int 1)))) (tNot (tB (tB0 p true)))) tNever tNext)
        (tRet (tTup (tCons (tC (.str "refused")) (tCons (tBM X.K "list" (fun x xs H Q => ∃ (a : Addr) (bs : List Bool) (j : Nat), x = V.ref a ∧ xs = [V.bl true] ∧ SqL X.K H a (bs.map V.bl) ∧ bs[j]? = some true ∧ (∀ m, m < j → bs[m]? ≠ some true) ∧ Q (.int (j : Nat)) H) (tVar 1) (tCons (tC (.bl true)) tNil)) tNil))))))
      { nx := fun _ H' => Q .non H', rt := Q } [some (.ref p.1), none] H := by
  have z100 : (100 : Nat) ≤ sizeLine := by decide
  simp only [List.length_append] at hz
  have e3 : (b1 ++ b2).map V.bl = b1.map V.bl ++ b2.map V.bl := by rw [List.map_append]
  refine ⟨rfl, by rw [List.length_map]; omega, fun l hl => ?_⟩
  refine ⟨.ref l, rfl, .inl ⟨rfl, _, SqL.of upd_same⟩, rfl, by rw [List.length_map]; omega, fun m hm2 => ?_⟩
  have n1 : l ≠ m := ne_of_none upd_same hm2
  have hmH : H m = none := by rw [upd_ne n1.symm] at hm2; exact hm2
  refine ⟨l, m, _, _, rfl, rfl, by rw [upd_ne n1, upd_same], upd_same, by simp only [List.length_map]; omega, ?_⟩
  refine ⟨.ref l, rfl, .inl ⟨rfl, _, SqL.of upd_same⟩, l, b1 ++ b2, rfl, rfl, SqL.of (by rw [e3]; exact upd_same), rfl, _, rfl, ?_⟩
  rw [hc]
  refine iteNS (by decide) ?_
  refine ⟨rfl, true, rfl, ?_⟩
  refine ⟨.ref l, rfl, .inl ⟨rfl, _, SqL.of upd_same⟩, l, b1 ++ b2, j, rfl, rfl, SqL.of (by rw [e3]; exact upd_same), hj, hm, by show 2 ≤ sizeLine; omega, fun t ht => ?_⟩
  have n4 : l ≠ t := ne_of_none upd_same ht
  have n6 : m ≠ t := ne_of_none (o := .lst (b2.map V.bl)) (by rw [upd_ne n1.symm, upd_same]) ht
  have keep : ∀ b o, H b = some o → b ≠ l ∧ b ≠ m := fun b o h => ⟨ne_of_none h hl, ne_of_none h hmH⟩
  have htH : H t = none := by rw [upd_ne n4.symm, upd_ne n6.symm, upd_ne n4.symm] at ht; exact ht
  refine q t _ (fun b o h => ?_) htH upd_same
  obtain ⟨k1, k2⟩ := keep b o h
  rw [upd_ne (ne_of_none h htH), upd_ne k1, upd_ne k2, upd_ne k1]
  exact h
end DL

/-! sorted(set(xs)), xs a list of ints, of any number. -/
namespace DL
open PySem PySem.Spec PyProof.Rows L2
/-- an empty set, as set(..) makes it -/
abbrev emp (w : World) : Obj := { cls := .type "set", dict := none, data := .set #[] 0 (.fresh 0 0 (!w.params.followText "set-order")) }
section
variable {P : Program} {w : World} {A : Around} {E : Value → Shared → Prop} {s : Shared}
theorem call_set_listI {l : Addr} {items : Array Value} (ns : List Int) {Q : Value → Shared → Prop} (hh : A.handled = none) (hl : s.heap.IsList l items) (hit : IntsAre items.toList ns) (hb : ns.length + 1 < scanBound)
    (h : ∀ (h' : Heap) (tk c : Nat), SetR w h' s.heap.objs.size (fun j => decide (j ∈ ns)) c → c ≤ ns.length → (∀ b o, s.heap.get? b = some o → h'.get? b = some o) → Q (.ref s.heap.objs.size) { s with heap := h', toks := tk }) :
    wpAny (model P w) A (call (.type "set") [.ref l]) Q E s := by
  have hisz : items.size = ns.length := by
    have q := IntsAre.length hit
    rwa [Array.length_toList] at q
  obtain ⟨c, tl, hmro⟩ := F.called_set.mro
  have hmade := F.called_set.made
  have hsub := F.called_set.sub
  have h1 := F.called_set.notType
  have h2 := F.called_set.canCreate
  have hct := F.typeCall_set_1 (.ref l)
  have hli := F.called_set.init.lookup
  refine wpAny_call (codeAny_of_tree ?_)
  show wpAny _ _ (callAny (.type "set") _) _ _ _
  refine wpAny_pure ⟨Code.quiet_builtin _ (by decide +kernel), codeAny_builtin F.entry_type_call ?_⟩
  rw [Around.under_plain (weight_type_call_type "set" [.ref l] []) rfl]
  repeat (any_goals (first | assumption | wp_step))
  refine codeAny_mono (code_set_led1 (.ref l) (E := E) (Q₁ := fun obj s₁ => obj = .ref s.heap.objs.size ∧ s₁ = { s with heap := s.heap.push (emp w) }) ⟨rfl, rfl⟩) fun r s₁ hr => ?_
  match r, hr with
  | .error e, hr => exact hr
  | .ok (.ret obj), hr =>
    obtain ⟨rfl, rfl⟩ := hr
    have hS : (s.heap.push (emp w)).get? s.heap.objs.size = some (emp w) := Heap.get?_push_size _ rfl
    have hT : Shared.TypeIs { s with heap := s.heap.push (emp w) } (.ref s.heap.objs.size) "set" := ⟨_, hS, rfl⟩
    have hbi := F.called_set.init.bind (.ref s.heap.objs.size)
    repeat (any_goals (first | assumption | wp_step))
    refine codeAny_mono (codeAny_call_builtin (R := wants (fun r s₂ => r = .none ∧ ∃ h' tk c, s₂ = { s with heap := h', toks := tk } ∧ SetR w h' s.heap.objs.size (fun j => decide (j ∈ ns)) c ∧ c ≤ ns.length ∧
      (∀ b o, s.heap.get? b = some o → h'.get? b = some o)) E) F.called_set.init.plain F.entry_set_init (check_set_init_1 hT ?_)) fun r₂ s₂ hr₂ => ?_
    · obtain ⟨⟨ocls, odict, odata, oslots⟩, hol, hcl, nl, hdl⟩ := hl
      simp only at hcl hdl
      subst hcl; subst hdl
      have hlS : l < s.heap.objs.size := Heap.lt_size hol
      have hl1 : (s.heap.push (emp w)).IsList l items := ⟨_, Heap.get?_push_of_some _ hol, rfl, nl, rfl⟩
      have hsz : (s.heap.push (emp w)).objs.size = s.heap.objs.size + 1 := Heap.size_push ..
      have hsls := F.sub_list_set
      have hslf := F.sub_list_frozenset
      have hne : (Value.type "list" == Value.type "dict") = false := by decide
      have hol' := Heap.get?_push_of_some (emp w) hol
      unfold Builtin.«set.__init__» noKeywords Builtin.Frozenset.updateFrom
      generalize hPI : pyIter = PI
      wp_walk
      subst hPI
      refine wpAny_pyIter_list hl1 ?_
      refine wpAny_bind (wpAny_runValue ?_)
      have hh3 : A.in1.in1.in1.handled = none := by simp [hh]
      have hneI : l ≠ (s.heap.push (emp w)).objs.size := by rw [Heap.size_push]; exact Nat.ne_of_lt (Nat.lt_succ_of_lt hlS)
      refine set_update_ints ((Walks.list hh3 _ l hneI items).toS) s.heap.objs.size (by rw [Heap.size_push]; simp only [List.mem_cons, List.mem_singleton, List.not_mem_nil, or_false, not_or]; exact ⟨Nat.ne_of_lt (Nat.lt_succ_self _), Nat.ne_of_gt hlS⟩)
        ns hisz hb (fun i v hv => ?_) (items.size - 0) 0 _ (by omega) (Nat.zero_le _) ⟨⟨_, Heap.get?_push_size _ rfl, rfl, rfl⟩, (hl1.push _)⟩ ⟨0, Nat.le_refl 0, setR_new_at (Heap.get?_push_of_some _ hS)⟩ ?_
      · have hi : i < ns.length := by rw [← hisz]; exact (Array.getElem?_eq_some_iff.mp hv).1
        obtain ⟨t, e⟩ := IntsAre.int_at hit i v (by rw [Array.getElem?_toList]; exact hv)
        refine ⟨ns[i], t, List.getElem?_eq_getElem hi, ?_⟩
        rw [e, List.getD_eq_getElem?_getD, List.getElem?_eq_getElem hi] <;> rfl
      · intro ⟨h', g2, d', tk', os'⟩ c' hm hc' hS'
        have eg : g2 = s.gens := hm.gens
        have ed : d' = s.drawn := hm.drawn
        have eo : os' = s.os := hm.os
        subst eg; subst ed; subst eo
        show wpAny _ _ _ _ _ _
        refine wpAny_pure ?_
        show wpAny _ _ (ret Value.none) _ _ _
        rw [hisz] at hc'
        refine wpAny_pure ⟨rfl, h', tk', c', rfl, hS', hc', fun b o e => hm.heap b o ?_ (Heap.get?_push_of_some _ (Heap.get?_push_of_some _ e))⟩
        have hb0 : b < s.heap.objs.size := Heap.lt_size e
        rw [Heap.size_push]
        simp only [List.mem_cons, List.mem_singleton, List.not_mem_nil, or_false, not_or]
        exact ⟨Nat.ne_of_lt hb0, Nat.ne_of_lt (Nat.lt_succ_of_lt hb0)⟩
    · match r₂, hr₂ with
      | .error e, hr₂ => exact hr₂
      | .ok (.ret r), hr₂ =>
        obtain ⟨rfl, h', tk, c', rfl, hS', hc', hk'⟩ := hr₂
        repeat (any_goals (first | assumption | wp_step))
        exact h _ _ _ hS' hc' hk'
end
/-- the numbers, each once, rising -/
def ddS (ns : List Int) : List Int := (dd ns).mergeSort fun a b => decide (a ≤ b)
theorem ddS_sorted (ns : List Int) : (ddS ns).Pairwise (· ≤ ·) := by
  have := List.pairwise_mergeSort (le := fun a b : Int => decide (a ≤ b)) (by intro a b c; simp; omega) (by intro a b; simp; omega) (dd ns)
  unfold ddS
  simpa using this
theorem mem_ddS {k : Int} {ns : List Int} : k ∈ ddS ns ↔ k ∈ ns := by
  unfold ddS
  rw [(List.mergeSort_perm _ _).mem_iff, mem_dd]
theorem nodup_ddS (ns : List Int) : (ddS ns).Nodup := by
  unfold ddS
  exact (List.mergeSort_perm _ _).nodup_iff.mpr (nodup_dd ns)
end DL
namespace DL
open PySem PySem.W PySem.Calls PyProof.Rows
section
variable {P : Program} {w : World} {A : Around} {E : Value → Shared → Prop} {s : Shared} {a : Addr}
theorem raw_each : ∀ {vs : List Value} {bs : List Int}, IntsAre vs bs → EachIs (fun v b => ∃ t, v = Value.int b t) vs bs
  | _, _, .nil => .nil
  | _, _, .cons k t r => .cons ⟨t, rfl⟩ (raw_each r)
theorem each_raw : ∀ {vs : List Value} {bs : List Int}, EachIs (fun v b => ∃ t, v = Value.int b t) vs bs → IntsAre vs bs
  | _, _, .nil => .nil
  | _, _, .cons ⟨t, e⟩ r => by
    subst e
    exact .cons _ t (each_raw r)
theorem each_reads {h : Heap} : ∀ {vs : List Value} {bs : List Int}, IntsAre vs bs → EachIs (fun v b => ∃ as, Reads h v (PyData.int b) as) vs bs
  | _, _, .nil => .nil
  | _, _, .cons k t r => .cons ⟨_, .int k t⟩ (each_reads r)
/-- sorted(a set of ints), of any number below scanBound -/
theorem sorted_setI {ns : List Int} {n : Nat} {Q : Value → Shared → Prop} (R : L2.SetR w s.heap a (fun j => decide (j ∈ ns)) n) (hh : A.handled = none) (hu : A.units + 2 < cLine)
    (hQ : ∀ s' p (out : Array Value) (c : Nat), (∀ b o, s.heap.get? b = some o → s'.heap.get? b = some o) → s'.gens = s.gens → s'.os = s.os → s.heap.objs.size ≤ p →
      s'.heap.get? p = some (seqObj "list" out c) → IntsAre out.toList (ddS ns) → n < scanBound → (ddS ns).length = n → Q (.ref p) s') :
    wpAny (model P w) A (call (.builtin "sorted") [.ref a]) Q E s := by
  obtain ⟨o, es, ep, t, ho, hex, hd, g, nd, hm, hb, hf, hn, hr, hl⟩ := R
  refine Calls.call_function_entry kind_sorted plain_sorted entry_sorted (args_sorted1 _) ?_
  unfold Builtin.«sorted»
  refine wpAny_bind (m := checkCount "sorted" 1 1 _) (wpAny_pure ?_)
  refine wpAny_bind (L2.collect_set (A := A.in1) hh ⟨o, ho, hex.1, hd⟩ hf hb hr hl fun s1 vs k1 hz g1 o1 pm => ?_)
  have hvl : vs.length = n := by rw [pm.length_eq, List.length_map, Array.length_toList]; exact hn
  have hnb : n < scanBound := by rw [← hn]; exact hb
  have hI : IntsAre vs (vs.map Builtin.Re.reRawOf) := L2.ints_of vs fun v hv => by
    obtain ⟨e, he, q⟩ := List.mem_map.mp (pm.mem_iff.mp hv)
    obtain ⟨k, tk, h1, _⟩ := g e he
    exact ⟨k, tk, by rw [← q]; exact h1⟩
  have pk : (vs.map Builtin.Re.reRawOf).Perm (es.toList.map L2.keyOf) := by
    have q := pm.map Builtin.Re.reRawOf
    rw [List.map_map] at q
    exact q
  have pd : (vs.map Builtin.Re.reRawOf).Perm (dd ns) := by
    refine (List.perm_ext_iff_of_nodup (pk.nodup_iff.mpr nd) (nodup_dd ns)).mpr fun k => ?_
    rw [pk.mem_iff, ← hm k, mem_dd]
    simp
  have hvz : vs.length ≤ sizeLine := by rw [hvl]; exact by rw [sizeLine_eq]; unfold scanBound at hnb; omega
  refine wpAny_bind (wpAny_newList ?_ hvz)
  have hoL : (s1.heap.push (seqObj "list" vs.toArray 0)).get? s1.heap.objs.size = some (seqObj "list" vs.toArray 0) := Heap.get?_push_size _ rfl
  have hal : AllAlike ((vs.map Builtin.Re.reRawOf).map PyData.int) := AllAlike.of fun _ _ => by simp [alike]
  have hso : Sortable ((vs.map Builtin.Re.reRawOf).map PyData.int) := Sortable.others fun _ => ⟨by simp, by simp⟩
  refine wpAny_bind (wpAny_holding (wpAny_call_entry_kw slot_list_sort ⟨_, hoL, rfl⟩ entry_list_sort ?body (args_list_sort _)))
  case body =>
    refine list_sort_vals (s := { s1 with heap := s1.heap.push (seqObj "list" vs.toArray 0) }) hoL (SortsAt.data (s := { s1 with heap := sortingHeap (s1.heap.push (seqObj "list" vs.toArray 0)) s1.heap.objs.size vs }) (each_map (R := fun v d => ∃ as, Reads (sortingHeap (s1.heap.push (seqObj "list" vs.toArray 0)) s1.heap.objs.size vs) v d as) PyData.int (each_reads hI)) hal hso (bound_map fun b hb => ?_)) hvz ?_
    · simp only [PyData.depth]
      exact hu
    refine ⟨_, rfl, wpAny_pure ⟨_, rfl, ?_⟩⟩
    obtain ⟨c, hc⟩ := sortedHeap_at (vs := vs) (out := (sortVals (dataKind (sortingHeap (s1.heap.push (seqObj "list" vs.toArray 0)) s1.heap.objs.size vs) ((vs.map Builtin.Re.reRawOf).map PyData.int)) false vs vs).toArray) hoL
    have he := sortVals_data (h' := sortingHeap (s1.heap.push (seqObj "list" vs.toArray 0)) s1.heap.objs.size vs) (enc := PyData.int) false (raw_each hI) (each_reads hI) hal
    have hs : (vs.map Builtin.Re.reRawOf).mergeSort (dataLe false PyData.int) = ddS ns := by
      have e1 : (dataLe false PyData.int : Int → Int → Bool) = fun a b => decide (a ≤ b) := by
        funext a b
        exact congrFun (congrFun (dataLe_int (fun b : Int => b)) a) b
      rw [e1]
      refine List.Perm.eq_of_pairwise (le := fun a b : Int => a ≤ b) (fun a b _ _ h1 h2 => by omega) ?_ (ddS_sorted ns) ?_
      · have := List.pairwise_mergeSort (le := fun a b : Int => decide (a ≤ b)) (by intro a b c; simp; omega) (by intro a b; simp; omega) (vs.map Builtin.Re.reRawOf)
        simpa using this
      · unfold ddS
        exact ((List.mergeSort_perm _ _).trans pd).trans (List.mergeSort_perm _ _).symm
    rw [hs] at he
    refine hQ _ s1.heap.objs.size _ c (fun b u e => ?_) g1 o1 hz hc (by simpa using each_raw he) hnb ?_
    · have q := k1 b u e
      have hlt := Heap.lt_size q
      show (sortedHeap (s1.heap.push (seqObj "list" vs.toArray 0)) s1.heap.objs.size vs _).get? b = some u
      rw [sortedHeap_old (Nat.ne_of_lt hlt) (by rw [size_push']; exact Nat.lt_succ_of_lt hlt)]
      exact Heap.get?_push_of_some _ q
    · have := pd.length_eq
      rw [List.length_map, hvl] at this
      unfold ddS
      rw [List.length_mergeSort]
      exact this.symm
end
end DL
namespace DL
open PySem PySem.Spec PyProof.Rows L2
def mSortSet (m : ME) : ME := fun ρ st => (m ρ st).bind fun v st1 => match v with
  | .lst vs => (match intsOf vs with
    | some ns => if ns.length ≤ 4000 then .ok (.lst ((ddS ns).map Val.int)) st1 else .stuck
    | none => .stuck)
  | _ => .stuck
section
variable {X : Cx} {W : WX} {a : Expr} {p p2 q pos : Pos} {m : ME} {k : Nat}
theorem repL_ints {K : PySem.W.Frag} {mg : Str → Option Value} {hd μ : List Addr} {H : Hp} : ∀ ns : List Int, RepL K mg hd μ H (ns.map Val.int) (ns.map V.int)
  | [] => .nil
  | n :: ns => .cons (.int n) (repL_ints ns)
theorem d_sortSet (hc : X.calm = true) (hr : Room k X.A) (hg : Gl X "sorted") (hm : X.mg "sorted" = none) (hg2 : Gl X "set") (hm2 : X.mg "set" = none) (ha : PE X a (TD X.K X.mg W m))
    (na : starEach [a] X.env = (false, eval a X.env) :: starEach [] X.env := by rfl) : PE X (.Call (.Name "sorted" p) [.Call (.Name "set" p2) [a] [] q] [] pos) (TD X.K X.mg W (mSortSet m)) := by
  refine ⟨fun pins s σ H Q I ⟨hd, μ, ρ, st, S, G⟩ => ?_⟩
  refine Call_ (ld_blt I hg hm boot_sorted ?_)
  refine PyProof.Rows.callWith_builtin1 (PyProof.Rows.args_cons ?_ rfl) rfl rfl
  refine Call_ (ld_blt I hg2 hm2 boot_set ?_)
  have T : TD X.K X.mg W m σ H (fun x H1 => ∃ (l : Addr) (ns : List Int), x = .ref l ∧ SqL X.K H1 l (ns.map V.int) ∧ ns.length ≤ 4000 ∧ ∀ p, H1 p = none → Q (.ref p) (upd H1 p (.lst ((ddS ns).map V.int)))) := by
    refine ⟨hd, μ, ρ, st, S, Good.imp (Good.bind G) (fun μ1 st1 H1 v e1 o1 G1 x rx => ?_) fun _ _ h => h⟩
    cases rx with
    | @lst l xs vs h1 hm' hh' h2 =>
      dsimp only at G1
      cases hi : intsOf vs with
      | none => rw [hi] at G1; exact G1.elim
      | some ns =>
        rw [hi] at G1
        dsimp only at G1
        by_cases hz : ns.length ≤ 4000
        · rw [if_pos hz] at G1
          rw [intsOf_eq hi] at h2
          have := RepL.ints h2
          subst this
          exact ⟨l, ns, rfl, SqL.of h1, hz, fun p hp => G1 μ1 _ (Ext.obj hp) (o1.obj hp) _ (new_lst o1 (repL_ints _) hp)⟩
        · rw [if_neg hz] at G1
          exact G1.elim
    | _ => exact G1.elim
  refine PyProof.Rows.callWith_type1 (PyProof.Rows.args_cons (thn (ha.run pins s σ H _ I T) fun v s1 ⟨x, H1, I1, r1, q1⟩ => PyProof.Rows.args_nil ?_) na) na rfl
  obtain ⟨l, ns, rfl, hq, hl, q1⟩ := q1
  cases r1
  obtain ⟨its, r, pl, hz⟩ := I1.list hq
  have hi : IntsAre its.toArray.toList ns := ints_of_vals r
  refine call_set_listI ns (I1.ok.hd hc) pl.isList hi (by unfold scanBound; omega) fun h' tk c R hcn k => ?_
  refine PyProof.Rows.args_nil ?_
  have I2 : Inv X pins σ H1 { s1 with heap := h', toks := tk } := I1.kept fun b o e => k b o e
  refine sorted_setI R (I2.ok.hd hc) (by have := hr.un; omega) fun s' p out c2 k2 g o hp ho hi' hnb hl' => ?_
  have hn : H1 p = none := I2.hok.fresh hp
  have hlen : ((ddS ns).map V.int).length ≤ sizeLine := by rw [List.length_map, hl', sizeLine_eq]; unfold scanBound at hnb; omega
  have J : Inv X pins σ (upd H1 p (.lst ((ddS ns).map V.int))) { s1 with heap := s'.heap, gens := s'.gens, drawn := s'.drawn, toks := s'.toks } :=
    Inv.call (s := { s1 with heap := h', toks := tk }) (ch := []) I2 (Un.laid (h := h') k2 hp hn) (I2.hok.laid k2 hp ⟨hlen, out.toList, c2, vals_of_ints hi', ho⟩) (by rw [g]; exact I2.bare) (fun _ z => nomatch z)
  have e : s' = { s1 with heap := s'.heap, gens := s'.gens, drawn := s'.drawn, toks := s'.toks } := by
    cases s'
    cases s1
    cases o
    rfl
  rw [e]
  exact ⟨.ref p, _, J, rfl, q1 p hn⟩
end
end DL

/-! Objects of a class of the program: made, asked, told; what they hold. -/
namespace DL
open PySem PySem.Spec PyProof.Rows L2
/-- an attribute set -/
def putV (f : Str) (v : Val) : List (Str × Val) → List (Str × Val)
  | [] => [(f, v)]
  | (g, x) :: r => if g = f then (g, v) :: r else (g, x) :: putV f v r
section
variable {K : PySem.W.Frag} {mg : Str → Option Value} {hd : List Addr} {μ : List Addr} {H : Hp}
theorem RepF.len : ∀ {fs : List (Str × Val)} {xs : List (Str × V)}, RepF K mg hd μ H fs xs → fs.length = xs.length
  | _, _, .nil => rfl
  | _, _, .cons _ h => congrArg (· + 1) (RepF.len h)
theorem RepF.look {f : Str} {v : Val} : ∀ {fs : List (Str × Val)} {xs : List (Str × V)}, RepF K mg hd μ H fs xs → fs.lookup f = some v → ∃ x, xs.lookup f = some x ∧ Rep K mg hd μ H v x
  | _, _, .nil, h => nomatch h
  | (g, u) :: fs, (_, y) :: xs, .cons h1 h2, h => by
    cases e : f == g with
    | true =>
      rw [List.lookup_cons, e] at h
      cases h
      exact ⟨y, by rw [List.lookup_cons, e], h1⟩
    | false =>
      rw [List.lookup_cons, e] at h
      obtain ⟨x, h3, h4⟩ := RepF.look h2 h
      exact ⟨x, by rw [List.lookup_cons, e]; exact h3, h4⟩
theorem RepF.none {f : Str} : ∀ {fs : List (Str × Val)} {xs : List (Str × V)}, RepF K mg hd μ H fs xs → fs.lookup f = none → xs.lookup f = none
  | _, _, .nil, _ => rfl
  | (g, u) :: fs, (_, y) :: xs, .cons h1 h2, h => by
    cases e : f == g with
    | true =>
      rw [List.lookup_cons, e] at h
      cases h
    | false =>
      rw [List.lookup_cons, e] at h
      rw [List.lookup_cons, e]
      exact RepF.none h2 h
theorem RepF.put {f : Str} {v : Val} {x : V} (r : Rep K mg hd μ H v x) : ∀ {fs : List (Str × Val)} {xs : List (Str × V)}, RepF K mg hd μ H fs xs → RepF K mg hd μ H (putV f v fs) (putF f x xs)
  | _, _, .nil => .cons r .nil
  | (g, u) :: fs, (_, y) :: xs, .cons h1 h2 => by
    unfold putV putF
    by_cases e : g = f
    · rw [if_pos e, if_pos e]
      exact .cons r h2
    · rw [if_neg e, if_neg e]
      exact .cons h1 (RepF.put r h2)
end
theorem Good.ext {K : PySem.W.Frag} {mg : Str → Option Value} {hd μ μ1 : List Addr} {H H1 : Hp} {α : Type} {r : Res α} {f : List Addr → Sto → Hp → α → Prop} {g : Str → Hp → Prop} (e : Ext μ H μ1 H1) (G : Good K mg hd μ H r f g) : Good K mg hd μ1 H1 r f g := by
  cases r with
  | ok v st => exact fun μ2 H2 e2 o2 => G μ2 H2 (e.trans e2) o2
  | exc c st => exact fun μ2 H2 e2 o2 => G μ2 H2 (e.trans e2) o2
  | stuck => exact G
/-! ### what the top has written of a class -/
structure ClsT (K : PySem.W.Frag) (mg : Str → Option Value) (c : Str) : Prop where
  ex : ∃ C : Addr, mg c = some (.ref C) ∧ Cls K C
structure NoT (K : PySem.W.Frag) (mg : Str → Option Value) (c f : Str) : Prop where
  ex : ∃ C : Addr, mg c = some (.ref C) ∧ NoAttr K C f
structure MethT (K : PySem.W.Frag) (mg : Str → Option Value) (c m qual : Str) (st : Stmt) (ps : List Str) : Prop where
  ex : ∃ (C f : Addr) (fd : FuncData), mg c = some (.ref C) ∧ Meth K C m f ∧ Fun K m qual st f fd ∧ Binds K fd ps []
structure MkT (K : PySem.W.Frag) (mg : Str → Option Value) (c m qual : Str) (st : Stmt) (ps : List Str) : Prop where
  ex : ∃ (C f : Addr) (fd : FuncData), mg c = some (.ref C) ∧ Mk K C f ∧ Fun K m qual st f fd ∧ Binds K fd ps []
/-- a method that may be called -/
structure CalM (P : Program) (w : World) (K : PySem.W.Frag) (mg : Str → Option Value) (base : Heap) (k : Nat) (c m : Str) (F : FV) : Prop where
  ex : ∃ (C f : Addr) (fd : FuncData) (ps : List Str), FnOk P w K mg base (L2.CX P w) k f fd ps (spD K mg F) ∧ mg c = some (.ref C) ∧ Meth K C m f ∧ Binds K fd ps []
/-- a class that may be called -/
structure CalK (P : Program) (w : World) (K : PySem.W.Frag) (mg : Str → Option Value) (base : Heap) (k : Nat) (c : Str) (F : FV) : Prop where
  ex : ∃ (C f : Addr) (fd : FuncData) (ps : List Str), FnOk P w K mg base (L2.CX P w) k f fd ps (spD K mg F) ∧ mg c = some (.ref C) ∧ Mk K C f ∧ Binds K fd ps []
section
variable {P : Program} {w : World} {K : PySem.W.Frag} {mg : Str → Option Value} {base : Heap}
theorem calM_of {c m qual : Str} {st : Stmt} {N ps : List Str} {k : Nat} {body : MS} {F : FV} (T : MethT K mg c m qual st ps) (S : FnScope N ps (defScope st)) (R : Refines F (runB ps.length N.length body))
    (hbody : ∀ (f : Addr) (cdv : Value) (A : Around) (outer : List Env) (s : Shared) (H : Hp) (E : XK), Room k (A.deeper (envOfC qual (defScope st) s.heap.objs.size f cdv)) →
      PSs (cxOf (L2.CX P w) P w K mg base N qual (defScope st) f cdv A outer s H E) (defBody st) (TDS K mg (fun cls d _ H => E cls d H) body)) : CalM P w K mg base (k + 1) c m F := by
  obtain ⟨C, f, fd, hc, hm, Fu, b⟩ := T.ex
  exact ⟨C, f, fd, ps, (fn_d Fu S (hbody f)).imp fun vs H Q E h => sp_refines R vs H Q E h, hc, hm, b⟩
theorem calK_of {c m qual : Str} {st : Stmt} {N ps : List Str} {k : Nat} {body : MS} {F : FV} (T : MkT K mg c m qual st ps) (S : FnScope N ps (defScope st)) (R : Refines F (runB ps.length N.length body))
    (hbody : ∀ (f : Addr) (cdv : Value) (A : Around) (outer : List Env) (s : Shared) (H : Hp) (E : XK), Room k (A.deeper (envOfC qual (defScope st) s.heap.objs.size f cdv)) →
      PSs (cxOf (L2.CX P w) P w K mg base N qual (defScope st) f cdv A outer s H E) (defBody st) (TDS K mg (fun cls d _ H => E cls d H) body)) : CalK P w K mg base (k + 1) c F := by
  obtain ⟨C, f, fd, hc, hm, Fu, b⟩ := T.ex
  exact ⟨C, f, fd, ps, (fn_d Fu S (hbody f)).imp fun vs H Q E h => sp_refines R vs H Q E h, hc, hm, b⟩
end
/-! ### o.m(..), o.f, o.f = e, C(..) -/
def insAt (st : Sto) (c : Str) (v : Val) : Option (List (Str × Val)) := match v with
  | .ref l => (match st[l]? with
    | some (.ins c' fs) => if c' = c then some fs else none
    | _ => none)
  | _ => none
def mInv (c m : Str) (F : FV) (mo : ME) (ms : MA) : ME := fun ρ st => (mo ρ st).bind fun v st1 => match insAt st1 c v with
  | some fs => if fs.lookup m = none then (ms ρ st1).bind fun vs st2 => F (v :: vs) st2 else .stuck
  | none => .stuck
def mFld (c f : Str) (mo : ME) : ME := fun ρ st => (mo ρ st).bind fun v st1 => match insAt st1 c v with
  | some fs => (match fs.lookup f with
    | some u => .ok u st1
    | none => .stuck)
  | none => .stuck
def mSetF (c f : Str) (mo mv : ME) : MS := fun ρ st => withE (mv ρ st) ρ fun u st1 => withE (mo ρ st1) ρ fun v st2 => match v with
  | .ref l => (match insAt st2 c v with
    | some fs => if fs.length < 1000 then .next ρ (st2.set l (.ins c (putV f u fs))) else .stuck
    | none => .stuck)
  | _ => .stuck
def mMake (c : Str) (F : FV) (ms : MA) : ME := fun ρ st => (ms ρ st).bind fun vs st1 => (F (.ref st1.length :: vs) (st1 ++ [.ins c []])).bind fun v st2 => match v with
  | .non => .ok (.ref st1.length) st2
  | _ => .stuck
theorem insAt_ok {K : PySem.W.Frag} {mg : Str → Option Value} {hd : List Addr} {μ : List Addr} {H : Hp} {st : Sto} (o : StoOk K mg hd μ st H) {c : Str} {v : Val} {x : V} {fs : List (Str × Val)} (r : Rep K mg hd μ H v x) (h : insAt st c v = some fs) :
    ∃ l a C dx xs, v = .ref l ∧ x = .ref a ∧ μ[l]? = some a ∧ mg c = some (.ref C) ∧ H a = some (.ins C dx xs) ∧ RepF K mg hd μ H fs xs := by
  cases r with
  | @ref l a hl =>
    unfold insAt at h
    dsimp only at h
    cases hc : st[l]? with
    | none => rw [hc] at h; cases h
    | some cl =>
      rw [hc] at h
      cases cl with
      | ins c' fs' =>
        dsimp only at h
        by_cases e : c' = c
        · rw [if_pos e] at h
          cases h
          subst e
          obtain ⟨C, dx, xs, h1, h2, h3⟩ := o.cell l a _ hl hc
          exact ⟨l, a, C, dx, xs, rfl, rfl, hl, h1, h2, h3⟩
        · rw [if_neg e] at h; cases h
      | _ => cases h
  | _ => cases h
section
variable {X : Cx} {W : WX} {k j : Nat} {c m f : Str} {F : FV} {p pos apos : Pos} {e o : Expr} {es : List Expr} {ms : MA} {mo mv : ME}
/-- the readings, at the slots -/
def tMethS (C : Addr) (m : Str) (sp : Sp) (E : L2.St → XK) (ta : TE) (t : TA) : TE := fun σ H Q => ta σ H fun x H1 => ∃ a dx fs, x = .ref a ∧ H1 a = some (.ins C dx fs) ∧ fs.lookup m = none ∧
  t σ H1 fun vs H2 => sp (x :: vs) H2 Q (E σ)
theorem methS_of {C : Addr} (hC : X.mg c = some (.ref C)) {σ : L2.St} {H : Hp} {Q : VK} (h : TD X.K X.mg W (mInv c m F mo ms) σ H Q) : tMethS C m (spD X.K X.mg F) (WE W) (TD X.K X.mg W mo) (TDA X.K X.mg W ms) σ H Q := by
  obtain ⟨hd, μ, ρ, st, S, G⟩ := h
  refine ⟨hd, μ, ρ, st, S, Good.imp (Good.bind G) (fun μ1 st1 H1 v e1 o1 G1 x rx => ?_) fun _ _ h => h⟩
  cases hi : insAt st1 c v with
  | none => simp only [hi] at G1; exact G1.elim
  | some fs =>
    simp only [hi] at G1
    by_cases hl : fs.lookup m = none
    · rw [if_pos hl] at G1
      obtain ⟨l, a, C', dx, xs, rfl, rfl, h1, h2, h3, h4⟩ := insAt_ok o1 rx hi
      rw [hC] at h2
      cases h2
      exact ⟨a, dx, xs, rfl, h3, h4.none hl, hd, μ1, ρ, st1, S.ext e1 o1, Good.imp (Good.bind G1) (fun μ2 st2 H2 vs e2 o2 G2 ys rys => ⟨hd, μ2, st2, _, o2, .cons (Rep.ext e2 _ _ rx) rys, G2⟩) fun _ _ h => h⟩
    · rw [if_neg hl] at G1
      exact G1.elim
theorem d_meth {pl : Sem Bool} (cm : CalM X.prog X.w X.K X.mg X.base k c m F) (cl : ClsT X.K X.mg c) (tk : Takes X W) (hr : Room j X.A) (hk : k ≤ j) (he : PE X o (TD X.K X.mg W mo)) (ha : PA X (e :: es) (TDA X.K X.mg W ms))
    (hst : starEach (e :: es) X.env = (false, eval e X.env) :: starEach es X.env := by rfl) (hpl : (backTo pos (starEach es X.env)).any (·.1) = false := by rfl)
    (ht : eval (.Call (.Attribute o m apos) (e :: es) [] pos) X.env = (do
      let ov ← eval o X.env
      standAt apos.atName
      let (f, first) ← holding [ov] (getMethod ov m pl)
      callWith pos f first (backTo pos (starEach (e :: es) X.env)) (backToKw pos (keywordEach [] X.env))) := by rfl) :
    PE X (.Call (.Attribute o m apos) (e :: es) [] pos) (TD X.K X.mg W (mInv c m F mo ms)) := by
  obtain ⟨C, f, fd, ps, G, hC, hm, b⟩ := cm.ex
  obtain ⟨C', hC', hcl⟩ := cl.ex
  rw [hC] at hC'
  cases hC'
  refine ⟨fun pins s σ H Q I h => ?_⟩
  have h := methS_of hC h
  refine PySem.W.methodCall_KW (pl := pl) (thn (he.run pins s σ H _ I h) fun u s1 ⟨x, H1, I1, rx, a, dx, fs, ex, ea, l, q⟩ => ?_) ht
  subst ex
  obtain rfl : u = Value.ref a := rx
  refine getmeth_ok I1 ea hcl hm l ?_
  refine PySem.W.callWith_K (first := [.ref a]) (h₀ := X.base) I.ok.mod.kin hm.kp (thn (ha.run pos pins s1 σ H1 _ I1 q) fun us s2 ⟨vs, H2, I2, r, q2⟩ => ⟨I2.kIn, ?_⟩) hst hpl
  exact run_fnS (us := .ref a :: us) (vs := .ref a :: vs) G (hr.mono hk) b (passAt tk σ) I2 (.cons rfl r) q2
theorem d_meth0 {pl : Sem Bool} (cm : CalM X.prog X.w X.K X.mg X.base k c m F) (cl : ClsT X.K X.mg c) (tk : Takes X W) (hr : Room j X.A) (hk : k ≤ j) (he : PE X o (TD X.K X.mg W mo))
    (ht : eval (.Call (.Attribute o m apos) [] [] pos) X.env = (do
      let ov ← eval o X.env
      standAt apos.atName
      let (f, first) ← holding [ov] (getMethod ov m pl)
      callWith pos f first (backTo pos (starEach [] X.env)) (backToKw pos (keywordEach [] X.env))) := by rfl) :
    PE X (.Call (.Attribute o m apos) [] [] pos) (TD X.K X.mg W (mInv c m F mo mNilA)) := by
  obtain ⟨C, f, fd, ps, G, hC, hm, b⟩ := cm.ex
  obtain ⟨C', hC', hcl⟩ := cl.ex
  rw [hC] at hC'
  cases hC'
  refine ⟨fun pins s σ H Q I h => ?_⟩
  have h := methS_of hC h
  refine PySem.W.methodCall_KW (pl := pl) (thn (he.run pins s σ H _ I h) fun u s1 ⟨x, H1, I1, rx, a, dx, fs, ex, ea, l, q⟩ => ?_) ht
  subst ex
  obtain rfl : u = Value.ref a := rx
  refine getmeth_ok I1 ea hcl hm l ?_
  obtain ⟨hd, μ, ρ, st, S, G0⟩ := q
  exact PySem.W.callWith_K0 (first := [.ref a]) I1.kIn hm.kp (run_fnS (us := [.ref a]) (vs := [.ref a]) G (hr.mono hk) b (passAt tk σ) I1 (.cons rfl .nil) (G0.here S.sto _ .nil))
theorem d_fld (cl : ClsT X.K X.mg c) (nf : NoT X.K X.mg c f) (he : PE X o (TD X.K X.mg W mo)) (hb : attributeBase o f X.env (eval o X.env) = eval o X.env := by rfl) : PE X (.Attribute o f pos) (TD X.K X.mg W (mFld c f mo)) := by
  obtain ⟨C, hC, hcl⟩ := cl.ex
  obtain ⟨C', hC', hnf⟩ := nf.ex
  rw [hC] at hC'
  cases hC'
  refine PE.imp (pe_fld he hb) fun σ H Q ⟨hd, μ, ρ, st, S, G⟩ => ⟨hd, μ, ρ, st, S, Good.imp (Good.bind G) (fun μ1 st1 H1 v e1 o1 G1 x rx => ?_) fun _ _ h => h⟩
  cases hi : insAt st1 c v with
  | none => simp only [hi] at G1; exact G1.elim
  | some fs =>
    simp only [hi] at G1
    cases hl : fs.lookup f with
    | none => simp only [hl] at G1; exact G1.elim
    | some u =>
      simp only [hl] at G1
      obtain ⟨l, a, C', dx, xs, rfl, rfl, h1, h2, h3, h4⟩ := insAt_ok o1 rx hi
      rw [hC] at h2
      cases h2
      obtain ⟨y, h5, h6⟩ := h4.look hl
      exact ⟨a, C, dx, xs, y, rfl, h3, hcl, hnf, h5, G1.here o1 _ h6⟩
theorem ds_setF {value : Expr} {pos' : Pos} (cl : ClsT X.K X.mg c) (nf : NoT X.K X.mg c f) (ho : PE X o (TD X.K X.mg W mo)) (hv : PE X value (TD X.K X.mg W mv)) (hs : swapsWith value (some (.Attribute o f pos')) pos.line X.env = pure false := by rfl) :
    PS X (.Assign [.Attribute o f pos'] value pos) (TDS X.K X.mg W (mSetF c f mo mv)) := by
  obtain ⟨C, hC, hcl⟩ := cl.ex
  obtain ⟨C', hC', hnf⟩ := nf.ex
  rw [hC] at hC'
  cases hC'
  refine PS.imp (ps_fld ho hv hs) fun D σ H h => ?_
  obtain ⟨hd, μ, ρ, st, S, G⟩ := TDS_def.mp h
  refine ⟨hd, μ, ρ, st, S, Good.imp (withE_of S G) (fun μ1 st1 H1 u e1 o1 G1 y ry => ?_) fun _ _ h => h⟩
  have S1 := S.ext e1 o1
  refine ⟨hd, μ1, ρ, st1, S1, Good.imp (withE_of S1 G1.2) (fun μ2 st2 H2 v e2 o2 G2 x rx => ?_) fun _ _ h => h⟩
  have S2 := S1.ext e2 o2
  have G2 := G2.2
  cases v with
  | ref l =>
    dsimp only at G2
    cases hi : insAt st2 c (.ref l) with
    | none => simp only [hi] at G2; exact G2.elim
    | some fs =>
      simp only [hi] at G2
      by_cases hz : fs.length < 1000
      · rw [if_pos hz] at G2
        obtain ⟨l', a, C', dx, xs, el, rfl, h1, h2, h3, h4⟩ := insAt_ok o2 rx hi
        cases el
        rw [hC] at h2
        cases h2
        have e3 : Ext μ2 H2 μ2 (upd H2 a (.ins C dx (putF f y xs))) := Ext.set (List.mem_of_getElem? h1) h3 trivial
        have o3 : StoOk X.K X.mg hd μ2 (st2.set l (.ins c (putV f u fs))) (upd H2 a (.ins C dx (putF f y xs))) :=
          o2.set h1 h3 trivial ⟨C, dx, _, hC, upd_same, RepF.put (Rep.ext (e2.trans e3) _ _ ry) (h4.ext e3)⟩
        exact ⟨a, C, dx, xs, rfl, h3, hcl, hnf, by rw [← h4.len]; exact hz, G2 μ2 _ σ e3 (S2.ext e3 o3)⟩
      · rw [if_neg hz] at G2
        exact G2.elim
  | _ => exact G2.elim
/-- C(..) at the slots -/
theorem run_makeS {C g : Addr} {fd : FuncData} {ps : List Str} {sp : Sp} {E : XK} {pins : List (Addr × Obj)} {σ : L2.St} {H : Hp} {s : Shared} {Q : VK} {us : List Value} {vs : List V} (M : Mk X.K C g) (G : FnOk X.prog X.w X.K X.mg X.base (L2.CX X.prog X.w) k g fd ps sp) (hr : Room (k + 1) X.A) (hb : Binds X.K fd ps [])
    (hx : PassesAt (L2.CX X.prog X.w) X σ E) (I : Inv X pins σ H s) (r : Vals vs us)
    (h : ∀ x dx, H x = none → H dx = none → dx ≠ x → sp (.ref x :: vs) (upd (upd H dx (.own x)) x (.ins C dx [])) (fun v H2 => v = .non ∧ Q (.ref x) H2) E) :
    wpAny (model X.prog X.w) X.A (call (.ref C) us) (EP X pins σ Q) X.xe s := by
  have hq := h (s.heap.objs.size + 1) s.heap.objs.size (I.hok.fresh (Nat.le_succ _)) (I.hok.fresh (Nat.le_refl _)) (Nat.ne_of_lt (Nat.lt_succ_self _))
  have I2 := Inv.made (C := C) I
  have r2 : Vals (V.ref (s.heap.objs.size + 1) :: vs) (Value.ref (s.heap.objs.size + 1) :: us) := .cons rfl r
  have hl : (Value.ref (s.heap.objs.size + 1) :: us).length = ps.length := by
    rw [← r2.length]
    exact G.len _ _ _ _ hq
  have b := hb _ (Value.ref (s.heap.objs.size + 1) :: us) I2.kIn (by rw [List.append_nil]; exact hl)
  rw [List.append_nil] at b
  refine wpAny_call (make_map (f := g) I.kIn M.makes M.init (beq_iff_eq.mp M.fn) (codeAny_mono (G.run _ X.stack _ _ ⟨Value.ref (s.heap.objs.size + 1) :: us, []⟩ (Value.ref (s.heap.objs.size + 1) :: us) _ _ E (hr.make C us [])
    (I2.env0.make C us []) b r2 hq) fun r s' hq' => ?_))
  match r, hq' with
  | .error e, hq' => exact hx pins _ _ e s' I2 hq'
  | .ok (.ret u), hq' =>
    obtain ⟨v, H', I3, rv, ev, q3⟩ := I2.after hq'
    subst ev
    exact ⟨rv, ⟨V.ref (s.heap.objs.size + 1), H', I3, rfl, q3⟩⟩
theorem d_make {x : Str} (cm : CalK X.prog X.w X.K X.mg X.base k x F) (tk : Takes X W) (hr : Room j X.A) (hk : k + 1 ≤ j) (hg : Gl X x) (ha : PA X (e :: es) (TDA X.K X.mg W ms))
    (hdb : (x == ("__debug__" : Str)) = false := by decide) (hst : starEach (e :: es) X.env = (false, eval e X.env) :: starEach es X.env := by rfl) (hpl : (backTo pos (starEach es X.env)).any (·.1) = false := by rfl) :
    PE X (.Call (.Name x p) (e :: es) [] pos) (TD X.K X.mg W (mMake x F ms)) := by
  obtain ⟨C, f, fd, ps, G, hC, hm, b⟩ := cm.ex
  refine ⟨fun pins s σ H Q I ⟨hd, μ, ρ, st, S, G0⟩ => ?_⟩
  refine wpAny_Call_Name_kw (ld_glob I hg hC ?_ hdb)
  have T : TDA X.K X.mg W ms σ H (fun vs H1 => ∀ y dx, H1 y = none → H1 dx = none → dx ≠ y → spD X.K X.mg F (.ref y :: vs) (upd (upd H1 dx (.own y)) y (.ins C dx [])) (fun v H2 => v = .non ∧ Q (.ref y) H2) (WE W σ)) := by
    refine ⟨hd, μ, ρ, st, S, Good.imp (Good.bind G0) (fun μ1 st1 H1 vs e1 o1 G1 xs rxs y dx hy hdx hne => ?_) fun _ _ h => h⟩
    have e2 : Ext μ1 H1 μ1 (upd H1 dx (.own y)) := Ext.obj hdx
    have hy2 : upd H1 dx (.own y) y = none := by rw [upd_ne (Ne.symm hne)]; exact hy
    have e3 : Ext μ1 (upd H1 dx (.own y)) (μ1 ++ [y]) (upd (upd H1 dx (.own y)) y (.ins C dx [])) := Ext.cell hy2
    have o3 : StoOk X.K X.mg hd (μ1 ++ [y]) (st1 ++ [.ins x []]) (upd (upd H1 dx (.own y)) y (.ins C dx [])) := (o1.obj hdx).new hy2 ⟨C, dx, [], hC, upd_same, .nil⟩
    have rr : Rep X.K X.mg hd (μ1 ++ [y]) (upd (upd H1 dx (.own y)) y (.ins C dx [])) (.ref st1.length) (.ref y) := .ref (by rw [← o1.len]; simp)
    refine ⟨hd, _, _, _, o3, .cons rr (RepL.ext (e2.trans e3) _ _ rxs), ?_⟩
    have G2 := Good.ext (e2.trans e3) G1
    refine Good.imp (Good.bind G2) (fun μ4 st4 H4 v e4 o4 G4 z rz => ?_) fun _ _ h => h
    cases rz with
    | non => exact ⟨rfl, G4.here o4 _ (Rep.ext e4 _ _ rr)⟩
    | _ => exact G4.elim
  refine PySem.W.callWith_K (h₀ := X.base) I.ok.mod.kin hm.kp (thn (ha.run pos pins s σ H _ I T) fun us s1 ⟨vs, H1, I1, r, q⟩ => ⟨I1.kIn, ?_⟩) hst hpl
  exact run_makeS hm G (hr.mono hk) b (passAt tk σ) I1 r q
end
end DL

/-! len(set(xs)), xs a list of fewer than 16 tuples of tuples .. of ints: the set's table, key by key, with nested keys. -/
namespace DL
open PySem PySem.Spec PyProof.Rows L2
mutual
/-- a key of numbers, Nones and tuples of such -/
def nums : NestedKey → Bool
  | .none => true
  | .num _ => true
  | .text _ => false
  | .tup ks => numsAll ks
def numsAll : List NestedKey → Bool
  | [] => true
  | k :: ks => nums k && numsAll ks
end
section
variable {P : Program} {w : World}
/-- asked of a value, the model says b and changes nothing -/
def Says (P : Program) (w : World) (f : Value → Sem Bool) (b : Bool) (s : Shared) (v : Value) : Prop := ∀ (A : Around) (E : Value → Shared → Prop) (Q : Bool → Shared → Prop), Q b s → wpAny (model P w) A (f v) Q E s
theorem Says.of {f : Value → Sem Bool} {b : Bool} {s : Shared} {v : Value} (e : f v = pure b) : Says P w f b s v := fun A E Q h => by
  rw [e]
  exact wpAny_pure h
/-- a walk over items of each of which the same is said -/
theorem says_walk {A : Around} {E : Value → Shared → Prop} {Q : Bool → Shared → Prop} {s : Shared} {items : Array Value} {f : Value → Sem Bool} {b : Bool} (hf : ∀ v ∈ items.toList, Says P w f b s v)
    {body : Value → Option Bool × PUnit → Sem (ForInStep (Option Bool × PUnit))} {rest : Option Bool × PUnit → Sem Bool}
    (hb : ∀ v r (R : ForInStep (Option Bool × PUnit) → Shared → Prop), r.1 = none → Says P w f b s v → (∀ r', r'.1 = none → R (.yield r') s) → wpAny (model P w) A (body v r) R E s)
    (hr : ∀ r, r.1 = none → wpAny (model P w) A (rest r) Q E s) : wpAny (model P w) A (forIn items (none, PUnit.unit) body >>= rest) Q E s := by
  refine wpAny_bind ?_
  rw [← Array.forIn_toList]
  refine wpAny_forIn_list _ (fun l r s' => r.1 = none ∧ s' = s ∧ ∀ v ∈ l, Says P w f b s v) _ ?_ ?_ _ _ ⟨rfl, rfl, hf⟩
  · rintro v l r s' ⟨h1, rfl, h2⟩
    exact hb v r _ h1 (h2 v List.mem_cons_self) fun r' h3 => ⟨h3, rfl, fun u hu => h2 u (List.mem_cons_of_mem _ hu)⟩
  · rintro r s' ⟨h1, rfl, _⟩
    exact hr r h1
theorem noCls_tup {n : Nat} {s : Shared} {a : Addr} {o : Obj} {vs : Array Value} {m : Nat} (ho : s.heap.get? a = some o) (hc : o.cls = .type "tuple") (hd : o.data = .seq vs m) (hq : ∀ v ∈ vs.toList, Says P w (ofAClassStatement n) false s v) : Says P w (ofAClassStatement (n + 1)) false s (.ref a) := fun A E Q h => by
  have hT : s.TypeIs (.ref a) "tuple" := ⟨o, ho, hc⟩
  unfold ofAClassStatement
  refine wpAny_bind (wpAny_typeOf hT ?_)
  dsimp only
  have e : (("tuple" : String) == "tuple") = true := by decide
  simp only [e, if_true, Bool.not_true, Bool.false_eq_true, if_false]
  refine wpAny_bind (wpAny_pure ?_)
  simp only [Bool.not_true, Bool.false_eq_true, if_false]
  refine wpAny_bind (wpAny_seqItems ho hd ?_)
  dsimp only
  refine says_walk hq (fun v r R h1 h2 h3 => ?_) fun r h1 => ?_
  · refine wpAny_bind (h2 _ _ _ ?_)
    simp only [Bool.false_eq_true, if_false]
    exact wpAny_pure (h3 _ rfl)
  · obtain ⟨r1, r2⟩ := r
    simp only at h1
    subst h1
    exact wpAny_pure h
theorem byVal_tup {n : Nat} {s : Shared} {a : Addr} {o : Obj} {vs : Array Value} {m : Nat} (ho : s.heap.get? a = some o) (hc : o.cls = .type "tuple") (hd : o.data = .seq vs m) (hq : ∀ v ∈ vs.toList, Says P w (hashByValue n) true s v) : Says P w (hashByValue (n + 1)) true s (.ref a) := fun A E Q h => by
  have hT : s.TypeIs (.ref a) "tuple" := ⟨o, ho, hc⟩
  unfold hashByValue
  refine wpAny_bind (wpAny_specialOf hT F.slot_tuple_hash.lookup ?_)
  show wpAny _ _ (seqItems? (.ref a) >>= _) _ _ s
  refine wpAny_bind (wpAny_seqItems ho hd ?_)
  refine says_walk hq (fun v r R h1 h2 h3 => ?_) fun r h1 => ?_
  · refine wpAny_bind (h2 _ _ _ ?_)
    simp only [Bool.not_true, Bool.false_eq_true, if_false]
    exact wpAny_pure (h3 _ rfl)
  · obtain ⟨r1, r2⟩ := r
    simp only at h1
    subst h1
    exact wpAny_pure h
mutual
theorem key_says : ∀ (k : NestedKey) (v : Value) (n : Nat) (s : Shared), NestedIs s.heap k v → k.depth ≤ n → nums k = true → Says P w (ofAClassStatement n) false s v ∧ Says P w (hashByValue n) true s v
  | .none, _, n, s, x, _, _ => by cases x; exact ⟨.of (by cases n <;> rfl), .of (by cases n <;> rfl)⟩
  | .num i, _, n, s, x, _, _ => by cases x <;> exact ⟨.of (by cases n <;> rfl), .of (by cases n <;> rfl)⟩
  | .text y, _, n, s, x, _, h => by cases h
  | .tup ks, _, n, s, x, hn, h => by
    cases x with
    | tup hg hc hd hk =>
      simp only [NestedKey.depth] at hn
      simp only [nums] at h
      cases n with
      | zero => omega
      | succ n =>
        have := keys_say ks _ n s hk (by omega) h
        exact ⟨noCls_tup hg hc hd fun v hv => (this v hv).1, byVal_tup hg hc hd fun v hv => (this v hv).2⟩
theorem keys_say : ∀ (ks : List NestedKey) (vs : List Value) (n : Nat) (s : Shared), NestedAll s.heap ks vs → NestedKey.depthAll ks ≤ n → numsAll ks = true → ∀ v ∈ vs, Says P w (ofAClassStatement n) false s v ∧ Says P w (hashByValue n) true s v
  | [], _, n, s, x, _, _, v, hv => by cases x; cases hv
  | k :: ks, _, n, s, x, hn, h, v, hv => by
    cases x with
    | cons x1 x2 =>
      simp only [NestedKey.depthAll] at hn
      simp only [numsAll, Bool.and_eq_true] at h
      rcases List.mem_cons.mp hv with e | hv
      · rw [e]; exact key_says k _ n s x1 (by omega) h.1
      · exact keys_say ks _ n s x2 (by omega) h.2 v hv
end
/-- at b stands the key k -/
structure IsN (h : Heap) (k : NestedKey) (b : Addr) : Prop where
  is : NestedIs h k (.ref b)
  dp : k.depth ≤ 7
  nm : nums k = true
theorem IsN.keep {h h' : Heap} {k : NestedKey} {b : Addr} (x : IsN h k b) (hk : ∀ c o, h.get? c = some o → h'.get? c = some o) : IsN h' k b := ⟨x.is.at (fun a o _ _ e _ => hk a o e) _ _, x.dp, x.nm⟩
theorem IsN.same {h h' : Heap} {k : NestedKey} {a b : Addr} {o : Obj} {es : Array (Int × Value)} {ep : Nat} {t : SetTable} (x : IsN h k b) (ho : h.get? a = some o) (hd : o.data = .set es ep t) (hs : Heap.SameBut a h h') : IsN h' k b :=
  ⟨NestedIs.at (fun c u vs n e ed => (hs.2 c (by
    rintro rfl
    rw [ho] at e
    cases e
    rw [hd] at ed
    cases ed)).trans e) _ _ x.is, x.dp, x.nm⟩
/-- a search among such keys shows nothing -/
theorem seenN {A : Around} {E : Value → Shared → Prop} {s : Shared} {k : NestedKey} {b : Addr} {Q : Bool → Shared → Prop} (hk : IsN s.heap k b) {ys : List Value} (hy : ∀ y ∈ ys, ∃ k' c, y = Value.ref c ∧ IsN s.heap k' c) (h : Q false s) :
    wpAny (model P w) A (searchCouldBeSeen (.ref b) ys) Q E s := by
  unfold searchCouldBeSeen
  refine wpAny_bind ?_
  refine wpAny_forIn_list _ (fun rest r s' => r.1 = none ∧ s' = s ∧ ∀ y ∈ rest, ∃ k' c, y = Value.ref c ∧ IsN s.heap k' c) _ ?_ ?_ _ _ ⟨rfl, rfl, hy⟩
  · rintro v rest r s' ⟨hr, rfl, hall⟩
    obtain ⟨k', c, rfl, hc⟩ := hall v List.mem_cons_self
    have more : ∀ y ∈ rest, ∃ k' c, y = Value.ref c ∧ IsN s'.heap k' c := fun u hu' => hall u (List.mem_cons_of_mem _ hu')
    dsimp only
    by_cases hv : (b == c || (carriedByValue (.ref b) && carriedByValue (.ref c))) = true
    · refine wp_if_pos hv ?_
      exact wpAny_pure ⟨rfl, rfl, more⟩
    · refine wp_if_neg hv ?_
      have q1 : ∀ {k : NestedKey} {b : Addr}, IsN s'.heap k b → QuietAt P w 8 s' (.ref b) := fun x => quiet_key _ _ 8 s' x.is (by have := x.dp; omega)
      have q2 : ∀ {k : NestedKey} {b : Addr}, IsN s'.heap k b → Says P w (ofAClassStatement 8) false s' (.ref b) := fun x => (key_says _ _ 8 s' x.is (by have := x.dp; omega) x.nm).1
      refine wpAny_bind (q1 hk _ _ _ ?_)
      simp only [Bool.not_true, Bool.false_eq_true, if_false]
      refine wpAny_bind (q1 hc _ _ _ ?_)
      simp only [Bool.not_true, Bool.false_eq_true, if_false]
      refine wpAny_bind (q2 hk _ _ _ ?_)
      simp only [Bool.false_eq_true, if_false]
      refine wpAny_bind (q2 hc _ _ _ ?_)
      simp only [Bool.false_eq_true, if_false]
      exact wpAny_pure ⟨rfl, rfl, more⟩
  · rintro ⟨r1, r2⟩ s' ⟨hr, rfl, _⟩
    simp only at hr
    subst hr
    exact wpAny_pure h
/-! ### the set -/
abbrev nh (w : World) (k : NestedKey) : Int := k.hash w
def rowsN (w : World) (L : List (Addr × NestedKey)) : List (Int × Value) := L.map fun p => (nh w p.2, Value.ref p.1)
structure SN (w : World) (h : Heap) (a : Addr) (L : List (Addr × NestedKey)) (es : Array (Int × Value)) (ep : Nat) (t : SetTable) : Prop where
  ob : ∃ o, h.get? a = some o ∧ o.ExactSet ∧ o.data = .set es ep t
  rows : es.toList = rowsN w L
  tab : TabOk t (L.map fun p => nh w p.2)
  nd : (L.map (·.2)).Nodup
  key : ∀ p ∈ L, IsN h p.2 p.1
  plain : t.plain = true
  led : w.params.followText "set-order" = true ∨ t.led = true
  room : L.length * 5 < t.mask * 3
  few : L.length < 16
section
variable {A : Around} {E : Value → Shared → Prop} {s : Shared} {a : Addr} {L : List (Addr × NestedKey)} {es : Array (Int × Value)} {ep : Nat} {t : SetTable}
theorem rowsN_len {es : Array (Int × Value)} (h : es.toList = rowsN w L) : es.size = L.length := by
  have := congrArg List.length h
  unfold rowsN at this
  rwa [Array.length_toList, List.length_map] at this
theorem rowsN_at {es : Array (Int × Value)} (h : es.toList = rowsN w L) {i : Nat} {p : Addr × NestedKey} (hp : L[i]? = some p) : es[i]? = some (nh w p.2, Value.ref p.1) := by
  rw [← Array.getElem?_toList, h]
  unfold rowsN
  rw [List.getElem?_map, hp] <;> rfl
theorem fits_of (T : TabOk t (L.map fun p => nh w p.2)) {n : Nat} (hn : n = L.length) (hm : n ≤ t.mask) : t.fits n = true := by
  have h1 := T.sz
  rw [List.length_map] at h1
  unfold SetTable.fits SetTable.fill
  rw [T.dm, Bool.and_eq_true, beq_iff_eq, decide_eq_true_eq]
  show t.place.size = n ∧ t.place.size + 0 ≤ t.mask
  omega
theorem SN.fits (R : SN w s.heap a L es ep t) : t.fits es.size = true := fits_of R.tab (rowsN_len R.rows) (by rw [rowsN_len R.rows]; have := R.room; omega)
theorem gwN (T : MaskOk t.mask) : ¬ t.gaveWay = true := by
  unfold SetTable.gaveWay
  rw [mask_odd T]
  decide
/-- the probe of the hash h, c steps on -/
abbrev prb (t : SetTable) (h : Int) (c : Nat) : SetTable.Probe := nth t.mask (runAt t.mask (SetTable.bits h % (t.mask + 1)) (SetTable.bits h)) c
theorem prb_dummy (t : SetTable) (h : Int) (c : Nat) : (prb t h c).dummy = none := by
  have key : ∀ (n : Nat) (p : SetTable.Probe), p.dummy = none → (nth t.mask p n).dummy = none := by
    intro n
    induction n with
    | zero => intro p h; exact h
    | succ n ih =>
      intro p h
      refine ih (adv t.mask p) ?_
      unfold adv
      split <;> exact h
  exact key c _ rfl
theorem prb_add (t : SetTable) (h : Int) (c q : Nat) : nth t.mask (prb t h c) q = prb t h (c + q) := (nth_add t.mask c _ q).symm
theorem prb_j (t : SetTable) (h : Int) (c q : Nat) : (nth t.mask (prb t h c) q).j = way t.mask h (c + q) := congrArg SetTable.Probe.j (prb_add t h c q)
/-- the search, from the c-th step on: found, or the first empty slot -/
theorem findN (R : SN w s.heap a L es ep t) {x : Addr} {k : NestedKey} (hx : IsN s.heap k x) (hu : A.units + 8 < cLine) {K : Nat} (hKf : K < 10 * SetTable.turns t.mask)
    (hK : way t.mask (nh w k) K ∉ t.place.toList) (hKb : ∀ c, c < K → way t.mask (nh w k) c ∈ t.place.toList) {Q : SetFound → Shared → Prop}
    (hin : k ∈ L.map (·.2) → Q (.there none) s) (hout : k ∉ L.map (·.2) → Q (.free (way t.mask (nh w k) K) false) s) :
    ∀ (f c : Nat) (stand : Option SetTable.Probe), stand.getD (t.probeStart (nh w k)) = prb t (nh w k) c → c ≤ K → K - c < f →
      (∀ (i : Nat) p, L[i]? = some p → p.2 = k → ∃ c', c ≤ c' ∧ c' < K ∧ t.place.toList[i]? = some (way t.mask (nh w k) c')) →
      wpAny (model P w) A (setSearchFrom a (.ref x) (nh w k) true f stand) Q E s
  | 0, c, stand, _, _, hf, _ => absurd hf (Nat.not_lt_zero _)
  | f + 1, c, stand, hst, hc, hf, hre => by
    obtain ⟨o, ho, hex, hd⟩ := R.ob
    have hat : ∀ (i : Nat) p, L[i]? = some p → (fun i => (es[i]?.map (·.1)).getD 0) i = nh w p.2 := fun i p hp => by
      show (es[i]?.map (·.1)).getD 0 = _
      rw [rowsN_at R.rows hp] <;> rfl
    rw [setSearchFrom_succ]
    refine wpAny_bind (wpAny_setState_of ho hd R.fits ?_)
    dsimp only
    refine wp_if_neg (gwN R.tab.mok) ?_
    try refine wpAny_bind (wpAny_pure ?_)
    have spec := go_spec t R.tab.ris R.tab.dm (fun i => (es[i]?.map (·.1)).getD 0) (nh w k) (10 * SetTable.turns t.mask) (K - c) _ (prb_dummy t (nh w k) c) (by omega)
      (fun q hq => by rw [prb_j]; exact hKb (c + q) (by omega)) (by rw [prb_j, show c + (K - c) = K by omega]; exact hK)
    -- the key's own entry isn't passed
    have pass : ∀ q, (∀ (q' i : Nat), q' < q → t.place.toList[i]? = some (way t.mask (nh w k) (c + q')) → (fun (i : Nat) => (es[i]?.map (·.1)).getD 0) i ≠ nh w k) → ∀ (i : Nat) p, L[i]? = some p → p.2 = k → ∀ c', c ≤ c' → t.place.toList[i]? = some (way t.mask (nh w k) c') → c + q ≤ c' := fun q hq i p hp hpk c' h1 h2 => by
      rcases Nat.lt_or_ge c' (c + q) with z | z
      · exact absurd ((hat i p hp).trans (congrArg (nh w) hpk)) (hq (c' - c) i (by omega) (by rw [show c + (c' - c) = c' by omega]; exact h2))
      · exact z
    rcases spec with ⟨q, i, hq, hi, hh, hno, hpr⟩ | ⟨hno, hpr⟩
    · have hpr' : t.probe (fun i => (es[i]?.map (·.1)).getD 0) (nh w k) (stand.getD (t.probeStart (nh w k))) = some (.candidate (way t.mask (nh w k) (c + q)) i (prb t (nh w k) (c + (q + 1)))) := by
        rw [hst, ← prb_j, ← prb_add]
        exact hpr
      rw [hpr']
      dsimp only
      rw [prb_j] at hi
      have hil : i < L.length := by
        have h1 : i < t.place.toList.length := (List.getElem?_eq_some_iff.mp hi).1
        have h2 := R.tab.sz
        rw [List.length_map] at h2
        rw [Array.length_toList] at h1
        omega
      have hp : L[i]? = some L[i] := List.getElem?_eq_getElem hil
      generalize L[i] = p at hp
      have hmem : p ∈ L := List.mem_of_getElem? hp
      have hpt := R.key p hmem
      have hsl : t.slot (way t.mask (nh w k) (c + q)) = .live i := slot_live R.tab.ris hi
      have rest : wpAny (model P w) A (searchRest a (.ref x) (nh w k) true f es t (way t.mask (nh w k) (c + q)) i (prb t (nh w k) (c + (q + 1)))) Q E s := by
        unfold searchRest
        rw [rowsN_at R.rows hp]
        dsimp only
        refine wpAny_bind (wpAny_holding ((nestedKind P w).eqBool (x := p.2) (y := k) hu ⟨hpt.is, by have := hpt.dp; omega⟩ ⟨hx.is, by have := hx.dp; omega⟩ ?_))
        refine wpAny_bind (wpAny_setState_of ho hd R.fits ?_)
        dsimp only
        by_cases hkk : p.2 = k
        · refine wp_if_pos (by simp [hkk]) ?_
          exact wpAny_pure (hin (List.mem_map.mpr ⟨p, hmem, hkk⟩))
        · refine wp_if_neg (by simp [hkk]) ?_
          try refine wpAny_bind (wpAny_pure ?_)
          rw [sameMem]
          dsimp only
          simp only [if_true, hsl, rowsN_at R.rows hp]
          refine wpAny_bind (wpAny_isSame_ref_self (wpAny_bind (wpAny_pure ?_)))
          simp only [if_true]
          refine wp_if_neg (by simp [hkk]) ?_
          refine findN R hx hu hKf hK hKb hin hout f (c + (q + 1)) _ rfl (by omega) (by omega) fun i0 p0 h0 hk0 => ?_
          obtain ⟨c', a1, a2, a3⟩ := hre i0 p0 h0 hk0
          have hge := pass q (fun q' i' h1 h2 => hno q' i' h1 (by rw [prb_j]; exact h2)) i0 p0 h0 hk0 c' a1 a3
          refine ⟨c', ?_, a2, a3⟩
          rcases Nat.lt_or_ge (c + q) c' with y | y
          · omega
          · exfalso
            have ec : c' = c + q := Nat.le_antisymm y hge
            rw [ec] at a3
            have s0 := slot_live R.tab.ris a3
            rw [hsl] at s0
            injection s0 with s0
            rw [← s0, hp] at h0
            exact hkk ((congrArg Prod.snd (Option.some.inj h0)).trans hk0)
      by_cases hl : t.led = true
      · refine wp_if_neg (by simp [hl]) ?_
        try refine wpAny_bind (wpAny_pure ?_)
        exact rest
      · refine wp_if_pos (by simp [hl]) ?_
        refine wpAny_bind (seenN hx (fun y hy => ?_) ?_)
        · obtain ⟨e, he, ee⟩ := List.mem_map.mp hy
          have he1 : e ∈ es ∧ e.1 = nh w k := by simpa using he
          have he2 : e ∈ es.toList := by simpa using he1.1
          rw [R.rows] at he2
          obtain ⟨p2, hp2, e2⟩ := List.mem_map.mp he2
          refine ⟨p2.2, p2.1, ?_, R.key p2 hp2⟩
          rw [← ee, ← e2]
        · refine wp_if_neg (by decide) ?_
          try refine wpAny_bind (wpAny_pure ?_)
          exact rest
    · have hpr' : t.probe (fun i => (es[i]?.map (·.1)).getD 0) (nh w k) (stand.getD (t.probeStart (nh w k))) = some (.empty (way t.mask (nh w k) K) none) := by
        have e2 : way t.mask (nh w k) K = (nth t.mask (prb t (nh w k) c) (K - c)).j := by rw [prb_j, show c + (K - c) = K by omega]
        rw [hst, e2]
        exact hpr
      rw [hpr']
      dsimp only
      refine wpAny_pure (hout fun hm => ?_)
      obtain ⟨p0, h0, hk0⟩ := List.mem_map.mp hm
      obtain ⟨i0, hi0, e0⟩ := List.getElem_of_mem h0
      obtain ⟨c', a1, a2, a3⟩ := hre i0 p0 (by rw [List.getElem?_eq_getElem hi0, e0]) hk0
      have := pass (K - c) (fun q' i' h1 h2 => hno q' i' h1 (by rw [prb_j]; exact h2)) i0 p0 (by rw [List.getElem?_eq_getElem hi0, e0]) hk0 c' a1 a3
      omega
theorem findN0 (R : SN w s.heap a L es ep t) {x : Addr} {k : NestedKey} (hx : IsN s.heap k x) (hu : A.units + 8 < cLine) {Q : SetFound → Shared → Prop}
    (hin : k ∈ L.map (·.2) → Q (.there none) s)
    (hout : ∀ K, k ∉ L.map (·.2) → way t.mask (nh w k) K ∉ t.place.toList → (∀ c, c < K → way t.mask (nh w k) c ∈ t.place.toList) → Q (.free (way t.mask (nh w k) K) false) s) :
    wpAny (model P w) A (setSearch a (.ref x) (nh w k) true) Q E s := by
  have hroom := R.room
  obtain ⟨K, hKf, hK, hKb⟩ := R.tab.first (by rw [List.length_map]; omega) (nh w k)
  have hbig : K < 100000 := by
    have : 10 * SetTable.turns t.mask ≤ 1420 := by
      unfold SetTable.turns
      rcases R.tab.mok with e | e | e <;> omega
    omega
  unfold setSearch
  refine findN R hx hu hKf hK hKb hin (fun hn => hout K hn hK hKb) 100000 0 none rfl (Nat.zero_le _) (by omega) fun i p hp hk => ?_
  have hi : (L.map fun p => nh w p.2)[i]? = some (nh w k) := by rw [List.getElem?_map, hp, ← hk] <;> rfl
  have hil : i < t.place.toList.length := by
    have h1 : i < L.length := (List.getElem?_eq_some_iff.mp hp).1
    have h2 := R.tab.sz
    rw [List.length_map] at h2
    rw [Array.length_toList]
    omega
  have hj := List.getElem?_eq_getElem hil
  obtain ⟨c, hc, e⟩ := R.tab.before hK hi hj
  exact ⟨c, Nat.zero_le _, hc, by rw [hj, e]⟩
/-- the rows in another order -/
theorem rows_order {es : Array (Int × Value)} {order : Array Nat} (hr : es.toList = rowsN w L) (hp : order.toList.Perm (List.range L.length)) :
    ∃ L2, (order.filterMap (es[·]?)).toList = rowsN w L2 ∧ L2.Perm L ∧ (L2.map fun p => nh w p.2) = order.toList.map fun i => (es.map (·.1)).getD i 0 := by
  have key : ∀ l : List Nat, (∀ i ∈ l, i < L.length) → l.filterMap (fun i => es[i]?) = rowsN w (l.filterMap fun i => L[i]?) ∧ ((l.filterMap fun i => L[i]?).map fun p => nh w p.2) = l.map fun i => (es.map (·.1)).getD i 0 := by
    intro l
    induction l with
    | nil => intro _; exact ⟨rfl, rfl⟩
    | cons i l ih =>
      intro hl
      have hi := hl i List.mem_cons_self
      have hLi := List.getElem?_eq_getElem hi
      have hei := rowsN_at hr hLi
      obtain ⟨e1, e2⟩ := ih fun j hj => hl j (List.mem_cons_of_mem _ hj)
      rw [List.filterMap_cons_some hei, List.filterMap_cons_some hLi, e1, List.map_cons, List.map_cons, e2]
      have e5 : (es.map (·.1))[i]? = some (nh w (L[i]).2) := by rw [Array.getElem?_map, hei] <;> rfl
      exact ⟨rfl, by simp [Array.getD_eq_getD_getElem?, e5]⟩
  obtain ⟨e1, e2⟩ := key order.toList fun i hi => List.mem_range.mp (hp.mem_iff.mp hi)
  refine ⟨order.toList.filterMap fun i => L[i]?, by first | (rw [Array.toList_filterMap]; exact e1) | simpa using e1, ?_, e2⟩
  have h2 : ∀ n, n ≤ L.length → (List.range n).filterMap (fun i => L[i]?) = L.take n := by
    intro n
    induction n with
    | zero => intro _; rfl
    | succ n ih =>
      intro hn
      have hlt : n < L.length := hn
      rw [List.range_succ, List.filterMap_append, ih (Nat.le_of_lt hlt), List.take_succ, List.getElem?_eq_getElem hlt, List.filterMap_cons_some (List.getElem?_eq_getElem hlt)] <;> rfl
  have h3 := hp.filterMap fun i => L[i]?
  rwa [h2 L.length (Nat.le_refl _), List.take_length] at h3
/-- the table laid anew, with 32 slots -/
theorem relayN {o : Obj} (ho : s.heap.get? a = some o) (hex : o.ExactSet) (hd : o.data = .set es ep t) (hrows : es.toList = rowsN w L) (T : TabOk t (L.map fun p => nh w p.2)) (h5 : L.length = 5) (hm : 5 ≤ t.mask)
    (nd : (L.map (·.2)).Nodup) (key : ∀ p ∈ L, IsN s.heap p.2 p.1) (pl : t.plain = true) (ld : w.params.followText "set-order" = true ∨ t.led = true) {Q : Unit → Shared → Prop}
    (hQ : ∀ h' L' es' ep' t', Heap.SameBut a s.heap h' → SN w h' a L' es' ep' t' → L'.Perm L → Q () { s with heap := h' }) : wpAny (model P w) A (setRelay a (SetTable.grown 5)) Q E s := by
  have hsl := rowsN_len hrows
  have hfits : t.fits es.size = true := fits_of T hsl (by omega)
  obtain ⟨t', order, e, hp, T2, em, el, ep', ed⟩ := relaid_ok t (hs := es.map (·.1)) (wanted := SetTable.grown 5) (M := 31) (by rw [size_20]) (.inr (.inl rfl)) (by rw [Array.size_map, hsl]; omega)
  rw [Array.size_map, hsl] at hp
  obtain ⟨L2, r1, r2, r3⟩ := rows_order hrows hp
  rw [← r3] at T2
  have hs2 : (order.filterMap (es[·]?)).size = es.size := by rw [rowsN_len r1, r2.length_eq, hsl]
  rw [setRelay_eq]
  refine wpAny_bind (wpAny_setState_of ho hd hfits ?_)
  dsimp only
  refine wp_if_neg (by rw [sizeLine_eq, size_20]; omega) ?_
  try refine wpAny_bind (wpAny_pure ?_)
  rw [e]
  dsimp only
  refine wpAny_bind ?_
  refine wp_if_neg (by rw [hs2]; simp) ?_
  try refine wpAny_bind (wpAny_pure ?_)
  refine wpAny_pure ?_
  dsimp only
  refine wpAny_storeSet_of ho hd ?_ (by rw [hs2, hsl, sizeLine_eq]; omega)
  have sb : Heap.SameBut a s.heap (s.heap.update a (Obj.putSet (order.filterMap (es[·]?)) t')) := Heap.SameBut.update ..
  refine hQ _ L2 _ (ep + 1) t' sb ⟨⟨_, store_at ho hd, ⟨hex.1, hex.2.1, hex.2.2⟩, rfl⟩, r1, T2, (r2.map (·.2)).nodup_iff.mpr nd, fun p hpm => (key p (r2.mem_iff.mp hpm)).same ho hd sb, by rw [ep']; exact pl, by rw [el]; exact ld, ?_, ?_⟩ r2
  · rw [r2.length_eq, em]; omega
  · rw [r2.length_eq]; omega
/-- adding a key -/
theorem addN (R : SN w s.heap a L es ep t) {x : Addr} {k : NestedKey} (hx : IsN s.heap k x) (hu : A.units + 8 < cLine) (hfew : L.length + 1 < 16) {Q : Bool → Shared → Prop}
    (hQ : ∀ b h' L' es' ep' t', Heap.SameBut a s.heap h' → SN w h' a L' es' ep' t' → (k ∈ L.map (·.2) → L' = L) → (k ∉ L.map (·.2) → L'.Perm ((x, k) :: L)) → Q b { s with heap := h' }) :
    wpAny (model P w) A (setAddHashed a (.ref x) (nh w k)) Q E s := by
  obtain ⟨o, ho, hex, hd⟩ := R.ob
  have hsl := rowsN_len R.rows
  have hroom := R.room
  unfold setAddHashed
  refine wpAny_holding ?_
  rw [show (100000 : Nat) = 99999 + 1 from rfl, setAddHashedIn_succ]
  refine wpAny_bind (wpAny_setState_of ho hd R.fits ?_)
  dsimp only
  refine wp_if_neg (by simp [byScan, Value.scannable]) ?_
  try refine wpAny_bind (wpAny_pure ?_)
  refine wpAny_bind (findN0 R hx hu (fun hm => ?_) fun K hm hK hb => ?_)
  · dsimp only
    exact wpAny_pure (hQ false s.heap L es ep t (Heap.SameBut.refl a s.heap) R (fun _ => rfl) fun z => absurd hm z)
  dsimp only
  refine wpAny_bind (wpAny_setState_of ho hd R.fits ?_)
  dsimp only
  obtain ⟨q1, q2, q3, q4, q5, q6, q7, q8, q9⟩ := R.tab.put hK hb
  have hp1 : (t.put (way t.mask (nh w k) K)).1.plain = true := by rw [q6]; exact R.plain
  generalize t.put (way t.mask (nh w k) K) = pt at q1 q3 q4 q5 q6 q7 q8 q9 hp1 ⊢
  obtain ⟨t1, p⟩ := pt
  dsimp only at q1 q3 q4 q5 q6 q7 q8 q9 hp1 ⊢
  subst q1
  have hby := (key_says (P := P) (w := w) _ _ 8 s hx.is (by have := hx.dp; omega) hx.nm).2
  first
    | (refine wpAny_bind ?_; refine wp_if_pos hp1 ?_; refine hby _ _ _ ?_)
    | refine wp_if_pos hp1 (wpAny_bind (hby _ _ _ ?_))
  simp only [if_true]
  generalize SetTable.below t.place (way t.mask (nh w k) K) = p at q2 q3 ⊢
  have hin : (SetTable.insertAt es p (nh w k, Value.ref x)).toList = rowsN w (L.take p ++ (x, k) :: L.drop p) := by
    rw [SetTable.toList_insertAt, R.rows]
    unfold rowsN
    rw [List.map_append, List.map_cons, List.map_take, List.map_drop]
  have pm := put_perm L p (x, k)
  have hlen : (L.take p ++ (x, k) :: L.drop p).length = L.length + 1 := pm.length_eq
  have hhs : (L.take p ++ (x, k) :: L.drop p).map (fun p => nh w p.2) = (L.map fun p => nh w p.2).take p ++ nh w k :: (L.map fun p => nh w p.2).drop p := by
    rw [List.map_append, List.map_cons, List.map_take, List.map_drop]
  rw [← hhs] at q3
  have nd1 : ((L.take p ++ (x, k) :: L.drop p).map (·.2)).Nodup := by
    refine (pm.map (·.2)).nodup_iff.mpr ?_
    rw [List.map_cons]
    exact List.nodup_cons.mpr ⟨hm, R.nd⟩
  have hes := rowsN_len hin
  rw [hlen] at hes
  generalize SetTable.insertAt es p (nh w k, Value.ref x) = es1 at hin hes ⊢
  generalize L.take p ++ (x, k) :: L.drop p = L1 at pm hlen q3 nd1 hin
  refine wpAny_bind (wpAny_storeSet_of ho hd ?_ (by rw [hes, sizeLine_eq]; omega))
  have sb : Heap.SameBut a s.heap (s.heap.update a (Obj.putSet es1 t1)) := Heap.SameBut.update ..
  have ho1 := store_at (es' := es1) (t' := t1) ho hd
  generalize s.heap.update a (Obj.putSet es1 t1) = h1 at sb ho1 ⊢
  have key1 : ∀ p ∈ L1, IsN h1 p.2 p.1 := fun p hp => by
    rcases List.mem_cons.mp (pm.mem_iff.mp hp) with e | hp
    · rw [e]; exact hx.same ho hd sb
    · exact (R.key p hp).same ho hd sb
  have ld1 : w.params.followText "set-order" = true ∨ t1.led = true := by rw [q5]; exact R.led
  by_cases hf : t1.tooFull = true
  · first
      | (refine wpAny_bind ?_; refine wp_if_pos (by simp [hf]) ?_)
      | (refine wp_if_pos (by simp [hf]) ?_; refine wpAny_bind ?_)
    have hfull : (L.length + 1) * 5 ≥ t1.mask * 3 := by
      have h := hf
      unfold SetTable.tooFull at h
      rwa [decide_eq_true_eq, q9, List.length_map] at h
    have e4 : t.mask = 7 ∧ L.length = 4 := by
      rcases R.tab.mok with e | e | e
      · rw [q4, e] at hfull; rw [e] at hroom; exact ⟨e, by omega⟩
      · exfalso; rw [q4, e] at hfull; omega
      · exfalso; rw [q4, e] at hfull; omega
    rw [hsl, e4.2]
    refine relayN (s := { s with heap := h1 }) ho1 ⟨hex.1, hex.2.1, hex.2.2⟩ rfl hin q3 (by omega) (by rw [q4, e4.1]; decide) nd1 key1 hp1 ld1 ?_
    intro h2 L2 es2 ep2 t2 sb2 R2 pm2
    exact wpAny_pure (hQ true h2 L2 es2 ep2 t2 (sb.trans sb2) R2 (fun z => absurd z hm) fun _ => pm2.trans pm)
  · first
      | refine wp_if_neg (by simp [hf]) ?_
      | (refine wpAny_bind ?_; refine wp_if_neg (by simp [hf]) ?_; refine wpAny_pure ?_)
    refine wpAny_pure (hQ true h1 L1 es1 (ep + 1) t1 sb ⟨⟨_, ho1, ⟨hex.1, hex.2.1, hex.2.2⟩, rfl⟩, hin, q3, nd1, key1, hp1, ld1, ?_, by omega⟩ (fun z => absurd z hm) fun _ => pm)
    have h := hf
    unfold SetTable.tooFull at h
    rw [decide_eq_true_eq, q9, List.length_map] at h
    rw [hlen]
    omega
theorem SN.keep {h h' : Heap} (R : SN w h a L es ep t) (ha : ∀ o, h.get? a = some o → h'.get? a = some o) (ht : ∀ p ∈ L, IsN h' p.2 p.1) : SN w h' a L es ep t := by
  obtain ⟨o, ho, r⟩ := R.ob
  exact ⟨⟨o, ha o ho, r⟩, R.rows, R.tab, R.nd, ht, R.plain, R.led, R.room, R.few⟩
theorem SN.empty {h : Heap} (ho : h.get? a = some (emp w)) : SN w h a [] #[] 0 (.fresh 0 0 (!w.params.followText "set-order")) where
  ob := ⟨_, ho, ⟨rfl, rfl, rfl⟩, rfl⟩
  rows := rfl
  tab := ⟨List.Pairwise.nil, rfl, rfl, .inl rfl, fun x hx => (by cases hx), fun i h j hi => (by simp at hi)⟩
  nd := List.nodup_nil
  key := fun p hp => (by cases hp)
  plain := rfl
  led := by
    show _ ∨ (!w.params.followText "set-order") = true
    cases w.params.followText "set-order"
    · exact .inr rfl
    · exact .inl rfl
  room := by
    show 0 * 5 < 7 * 3
    decide
  few := by
    show 0 < 16
    decide
/-- what of the first i items is in the set -/
structure In (ks L : List (Addr × NestedKey)) (i : Nat) : Prop where
  sub : ∀ p ∈ L, p ∈ ks
  all : ∀ k, k ∈ L.map (·.2) ↔ k ∈ (ks.take i).map (·.2)
  len : L.length ≤ i
theorem In.next {ks L L' : List (Addr × NestedKey)} {i : Nat} {x : Addr × NestedKey} (g : In ks L i) (h : ks[i]? = some x) (h1 : x.2 ∈ L.map (·.2) → L' = L) (h2 : x.2 ∉ L.map (·.2) → L'.Perm ((x.1, x.2) :: L)) : In ks L' (i + 1) := by
  have e : (ks.take (i + 1)).map (·.2) = (ks.take i).map (·.2) ++ [x.2] := by rw [List.take_add_one, h]; simp
  by_cases c : x.2 ∈ L.map (·.2)
  · rw [h1 c]
    refine ⟨g.sub, fun k => ?_, Nat.le_succ_of_le g.len⟩
    rw [e, List.mem_append, g.all, List.mem_singleton]
    exact ⟨.inl, fun z => z.elim id fun q => q ▸ (g.all _).mp c⟩
  · have pm := h2 c
    refine ⟨fun p hp => ?_, fun k => ?_, ?_⟩
    · rcases List.mem_cons.mp (pm.mem_iff.mp hp) with q | q
      · rw [q]; exact List.mem_of_getElem? h
      · exact g.sub p q
    · rw [(pm.map (·.2)).mem_iff, List.map_cons, List.mem_cons, e, List.mem_append, List.mem_singleton, g.all]
      exact or_comm
    · rw [pm.length_eq]
      exact Nat.succ_le_succ g.len
/-- set.update's loop -/
theorem updateN {I : Addr} {fp wr : List Addr} {G : Array GenState → Array GenState → Prop} {n : Nat} {Pv : Nat → Value → Prop} {St : Nat → Shared → Prop} {R : Result → Shared → Prop}
    (W : WalksS P w A.in1 I fp wr G n Pv St) (S : Addr) (hSf : S ∉ fp) (ks : List (Addr × NestedKey)) (hn : n = ks.length) (hfew : ks.length < 16) (hval : ∀ i v, Pv i v → ∃ p, ks[i]? = some p ∧ v = .ref p.1)
    (h0 : Heap) (hk : ∀ p ∈ ks, IsN h0 p.2 p.1) (hS0 : h0.get? S = none) (hw0 : ∀ b ∈ wr, h0.get? b = none) (hu : A.in1.units + 8 < cLine) :
    ∀ (k i : Nat) (s : Shared), n - i = k → i ≤ n → St i s → (∀ b o, h0.get? b = some o → s.heap.get? b = some o) → (∃ L es ep t, SN w s.heap S L es ep t ∧ In ks L i) →
      (∀ s' L es ep t, Moved (S :: wr) G s s' → SN w s'.heap S L es ep t → In ks L n → (∀ b o, h0.get? b = some o → s'.heap.get? b = some o) → R (.ok (.ret .none)) s') →
      codeAny (model P w) A (.builtin "set.update.loop" ⟨[.ref S, .ref I], []⟩) R s := by
  have hSw : S ∉ wr := fun h => hSf (W.sub _ h)
  have hsub : ∀ b ∈ wr, b ∈ S :: wr := fun b hb => List.mem_cons_of_mem _ hb
  have keepM : ∀ {s s' : Shared}, Moved wr G s s' → (∀ b o, h0.get? b = some o → s.heap.get? b = some o) → ∀ b o, h0.get? b = some o → s'.heap.get? b = some o := fun hm hkp b o e =>
    hm.heap b o (fun hb => by rw [hw0 b hb] at e; cases e) (hkp b o e)
  intro k
  induction k with
  | zero =>
    intro i s hk' hi hst hkp ⟨L, es, ep, t, hS, g⟩ hR
    obtain rfl : i = n := by omega
    refine codeAny_builtin F.entry_set_update_loop ?_
    rw [Around.under_plainId F.plain_set_update_loop _]
    show wpAny _ A.in1 (pyNext (.ref I) >>= _) _ _ s
    refine wpAny_bind (W.done s _ _ hst fun s' hm => ?_)
    show wpAny _ A.in1 (ret Value.none) _ _ s'
    have hkp' := keepM hm hkp
    exact wpAny_pure (hR s' L es ep t (hm.mono hsub) (hS.keep (fun o e => hm.heap S o hSw e) fun p hp => (hk p (g.sub p hp)).keep hkp') g hkp')
  | succ k ih =>
    intro i s hk' hi hst hkp ⟨L, es, ep, t, hS, g⟩ hR
    have hlt : i < n := by omega
    refine codeAny_builtin F.entry_set_update_loop ?_
    rw [Around.under_plainId F.plain_set_update_loop _]
    show wpAny _ A.in1 (pyNext (.ref I) >>= _) _ _ s
    refine wpAny_bind (W.item i s _ _ hlt hst fun v s' hP hst' hm => ?_)
    obtain ⟨p, hp, rfl⟩ := hval i v hP
    have hkp' := keepM hm hkp
    have hS' : SN w s'.heap S L es ep t := hS.keep (fun o e => hm.heap S o hSw e) fun q hq => (hk q (g.sub q hq)).keep hkp'
    have hx : IsN s'.heap p.2 p.1 := (hk p (List.mem_of_getElem? hp)).keep hkp'
    show wpAny _ A.in1 (holding [Value.ref p.1] (setAdd S (.ref p.1)) >>= _) _ _ s'
    refine wpAny_bind (wpAny_holding ?_)
    unfold setAdd
    refine wpAny_holding ?_
    refine wpAny_bind (pyHash_key _ _ _ _ _ hx.is (by have := hx.dp; omega) ?_)
    refine addN (s := { s' with toks := s'.toks + p.2.draws }) hS' hx hu (by have := g.len; omega) fun b h' L' es' ep' t' hsb hS2 c1 c2 => ?_
    have hkp2 : ∀ b o, h0.get? b = some o → h'.get? b = some o := fun b o e => (hsb.2 b (fun z => by rw [z, hS0] at e; cases e)).trans (hkp' b o e)
    refine wpAny_pure ⟨plainId_quiet F.plain_set_update_loop _, ih (i + 1) _ (by omega) hlt (W.frame _ s' _ _ hst' (Nat.le_add_right _ _) fun b hb o e => ?_) hkp2 ⟨L', es', ep', t', hS2, g.next hp c1 c2⟩ fun s'' L2 es2 ep2 t2 hm'' hS'' g'' hkp'' => ?_⟩
    · rw [hsb.2 b (fun h : b = S => hSf (by rw [← h]; exact hb))]; exact e
    · refine hR s'' L2 es2 ep2 t2 (Moved.trans W.gtrans ((hm.mono hsub).then_heap (Nat.le_add_right _ _) fun b o hb e => ?_) hm'') hS'' g'' hkp''
      rw [hsb.2 b (fun h : b = S => hb (by rw [h]; exact List.mem_cons_self))]; exact e
/-- set(xs), xs a list of such keys -/
theorem call_setN {l : Addr} {items : Array Value} (ks : List (Addr × NestedKey)) {Q : Value → Shared → Prop} (hh : A.handled = none) (hl : s.heap.IsList l items) (hit : items.toList = ks.map fun p => Value.ref p.1)
    (hk : ∀ p ∈ ks, IsN s.heap p.2 p.1) (hfew : ks.length < 16) (hu : A.units + 11 < cLine)
    (h : ∀ (h' : Heap) (tk : Nat) L es ep t, SN w h' s.heap.objs.size L es ep t → In ks L ks.length → (∀ b o, s.heap.get? b = some o → h'.get? b = some o) → Q (.ref s.heap.objs.size) { s with heap := h', toks := tk }) :
    wpAny (model P w) A (call (.type "set") [.ref l]) Q E s := by
  have hisz : items.size = ks.length := by
    have q := congrArg List.length hit
    rwa [Array.length_toList, List.length_map] at q
  obtain ⟨c, tl, hmro⟩ := F.called_set.mro
  have hmade := F.called_set.made
  have hsub := F.called_set.sub
  have h1 := F.called_set.notType
  have h2 := F.called_set.canCreate
  have hct := F.typeCall_set_1 (.ref l)
  have hli := F.called_set.init.lookup
  refine wpAny_call (codeAny_of_tree ?_)
  show wpAny _ _ (callAny (.type "set") _) _ _ _
  refine wpAny_pure ⟨Code.quiet_builtin _ (by decide +kernel), codeAny_builtin F.entry_type_call ?_⟩
  rw [Around.under_plain (weight_type_call_type "set" [.ref l] []) rfl]
  repeat (any_goals (first | assumption | wp_step))
  refine codeAny_mono (code_set_led1 (.ref l) (E := E) (Q₁ := fun obj s₁ => obj = .ref s.heap.objs.size ∧ s₁ = { s with heap := s.heap.push (emp w) }) ⟨rfl, rfl⟩) fun r s₁ hr => ?_
  match r, hr with
  | .error e, hr => exact hr
  | .ok (.ret obj), hr =>
    obtain ⟨rfl, rfl⟩ := hr
    have hS : (s.heap.push (emp w)).get? s.heap.objs.size = some (emp w) := Heap.get?_push_size _ rfl
    have hT : Shared.TypeIs { s with heap := s.heap.push (emp w) } (.ref s.heap.objs.size) "set" := ⟨_, hS, rfl⟩
    have hbi := F.called_set.init.bind (.ref s.heap.objs.size)
    repeat (any_goals (first | assumption | wp_step))
    refine codeAny_mono (codeAny_call_builtin (R := wants (fun r s₂ => r = .none ∧ ∃ h' tk L es ep t, s₂ = { s with heap := h', toks := tk } ∧ SN w h' s.heap.objs.size L es ep t ∧ In ks L ks.length ∧
      (∀ b o, s.heap.get? b = some o → h'.get? b = some o)) E) F.called_set.init.plain F.entry_set_init (check_set_init_1 hT ?_)) fun r₂ s₂ hr₂ => ?_
    · obtain ⟨⟨ocls, odict, odata, oslots⟩, hol, hcl, nl, hdl⟩ := hl
      simp only at hcl hdl
      subst hcl; subst hdl
      have hlS : l < s.heap.objs.size := Heap.lt_size hol
      have hl1 : (s.heap.push (emp w)).IsList l items := ⟨_, Heap.get?_push_of_some _ hol, rfl, nl, rfl⟩
      have hsls := F.sub_list_set
      have hslf := F.sub_list_frozenset
      have hne : (Value.type "list" == Value.type "dict") = false := by decide
      have hol' := Heap.get?_push_of_some (emp w) hol
      have none_of : ∀ b, s.heap.objs.size ≤ b → s.heap.get? b = none := fun b hb => by
        cases q : s.heap.get? b with
        | none => rfl
        | some o => exact absurd (Nat.lt_of_lt_of_le (Heap.lt_size q) hb) (Nat.lt_irrefl _)
      unfold Builtin.«set.__init__» noKeywords Builtin.Frozenset.updateFrom
      generalize hPI : pyIter = PI
      wp_walk
      subst hPI
      refine wpAny_pyIter_list hl1 ?_
      refine wpAny_bind (wpAny_runValue ?_)
      have hh3 : A.in1.in1.in1.handled = none := by simp [hh]
      have hneI : l ≠ (s.heap.push (emp w)).objs.size := by rw [Heap.size_push]; exact Nat.ne_of_lt (Nat.lt_succ_of_lt hlS)
      refine updateN ((Walks.list hh3 _ l hneI items).toS) s.heap.objs.size (by rw [Heap.size_push]; simp only [List.mem_cons, List.mem_singleton, List.not_mem_nil, or_false, not_or]; exact ⟨Nat.ne_of_lt (Nat.lt_succ_self _), Nat.ne_of_gt hlS⟩)
        ks hisz hfew (fun i v hv => ?_) s.heap hk (none_of _ (Nat.le_refl _)) (fun b hb => none_of b (by
          rw [List.mem_singleton.mp hb, Heap.size_push]
          exact Nat.le_succ _)) hu (items.size - 0) 0 _ (by omega) (Nat.zero_le _) ⟨⟨_, Heap.get?_push_size _ rfl, rfl, rfl⟩, (hl1.push _)⟩ (fun b o e => Heap.get?_push_of_some _ (Heap.get?_push_of_some _ e))
        ⟨[], #[], 0, _, SN.empty (Heap.get?_push_of_some _ hS), ⟨fun p hp => (by cases hp), fun k => (by simp), Nat.le_refl 0⟩⟩ ?_
      · have q : items.toList[i]? = some v := by rw [Array.getElem?_toList]; exact hv
        rw [hit, List.getElem?_map] at q
        cases hq : ks[i]? with
        | none => rw [hq] at q; cases q
        | some p =>
          rw [hq] at q
          exact ⟨p, rfl, (Option.some.inj q).symm⟩
      · intro ⟨h', g2, d', tk', os'⟩ L es ep t hm hS' g' hkp
        have eg : g2 = s.gens := hm.gens
        have ed : d' = s.drawn := hm.drawn
        have eo : os' = s.os := hm.os
        subst eg; subst ed; subst eo
        show wpAny _ _ _ _ _ _
        refine wpAny_pure ?_
        show wpAny _ _ (ret Value.none) _ _ _
        rw [hisz] at g'
        exact wpAny_pure ⟨rfl, h', tk', L, es, ep, t, rfl, hS', g', hkp⟩
    · match r₂, hr₂ with
      | .error e, hr₂ => exact hr₂
      | .ok (.ret r), hr₂ =>
        obtain ⟨rfl, h', tk, L, es, ep, t, rfl, hS', g', hk'⟩ := hr₂
        repeat (any_goals (first | assumption | wp_step))
        exact h _ _ _ _ _ _ hS' g' hk'
end
end
end DL
namespace DL
open PySem PySem.Spec PyProof.Rows L2
mutual
/-- the key that a value is -/
def vkey : Val → Option NestedKey
  | .non => some .none
  | .int i => some (.num i)
  | .tup vs => (vkeys vs).map .tup
  | _ => none
def vkeys : List Val → Option (List NestedKey)
  | [] => some []
  | v :: vs => match vkey v, vkeys vs with
    | some k, some ks => some (k :: ks)
    | _, _ => none
end
mutual
theorem vkey_nums : ∀ (v : Val) (k : NestedKey), vkey v = some k → nums k = true
  | .non, _, h => by cases h; rfl
  | .int i, _, h => by cases h; rfl
  | .tup vs, _, h => by
    simp only [vkey] at h
    cases e : vkeys vs with
    | none => rw [e] at h; cases h
    | some ks =>
      rw [e] at h
      cases h
      exact vkeys_nums vs ks e
  | .bl _, _, h => by cases h
  | .str _, _, h => by cases h
  | .lst _, _, h => by cases h
  | .rol _, _, h => by cases h
  | .tpl _, _, h => by cases h
  | .tpk _, _, h => by cases h
  | .dic _, _, h => by cases h
  | .dit _, _, h => by cases h
  | .ref _, _, h => by cases h
  | .fn _, _, h => by cases h
theorem vkeys_nums : ∀ (vs : List Val) (ks : List NestedKey), vkeys vs = some ks → numsAll ks = true
  | [], _, h => by cases h; rfl
  | v :: vs, _, h => by
    simp only [vkeys] at h
    cases e1 : vkey v with
    | none => rw [e1] at h; cases h
    | some k =>
      cases e2 : vkeys vs with
      | none => rw [e1, e2] at h; cases h
      | some ks =>
        rw [e1, e2] at h
        cases h
        simp only [numsAll, Bool.and_eq_true]
        exact ⟨vkey_nums v k e1, vkeys_nums vs ks e2⟩
end
section
variable {X : Cx} {pins : List (Addr × Obj)} {σ : L2.St} {H : Hp} {s : Shared} {hd μ : List Addr}
mutual
theorem key_at (I : Inv X pins σ H s) : ∀ (v : Val) (x : V) (u : Value) (k : NestedKey), Rep X.K X.mg hd μ H v x → RelV x u → vkey v = some k → NestedIs s.heap k u
  | .non, _, u, _, r, ru, h => by
    cases h
    cases r
    obtain rfl : u = .none := ru
    exact .none
  | .int i, _, u, _, r, ru, h => by
    cases h
    cases r
    obtain ⟨t, rfl⟩ := ru
    exact .int i t
  | .tup vs, _, u, _, r, ru, h => by
    simp only [vkey] at h
    cases e : vkeys vs with
    | none => rw [e] at h; cases h
    | some ks =>
      rw [e] at h
      cases h
      cases r with
      | @tup a xs _ h1 h2 =>
        obtain rfl : u = .ref a := ru
        obtain ⟨its, rv, ⟨o, ho, hc, n, hd'⟩, hz⟩ := I.tuple h1
        exact .tup ho hc hd' (by simpa using keys_at I vs xs its ks h2 rv e)
  | .bl _, _, _, _, _, _, h => by cases h
  | .str _, _, _, _, _, _, h => by cases h
  | .lst _, _, _, _, _, _, h => by cases h
  | .rol _, _, _, _, _, _, h => by cases h
  | .tpl _, _, _, _, _, _, h => by cases h
  | .tpk _, _, _, _, _, _, h => by cases h
  | .dic _, _, _, _, _, _, h => by cases h
  | .dit _, _, _, _, _, _, h => by cases h
  | .ref _, _, _, _, _, _, h => by cases h
  | .fn _, _, _, _, _, _, h => by cases h
theorem keys_at (I : Inv X pins σ H s) : ∀ (vs : List Val) (xs : List V) (us : List Value) (ks : List NestedKey), RepL X.K X.mg hd μ H vs xs → Vals xs us → vkeys vs = some ks → NestedAll s.heap ks us
  | [], _, _, _, r, ru, h => by
    cases h
    cases r
    cases ru
    exact .nil
  | v :: vs, _, _, _, r, ru, h => by
    simp only [vkeys] at h
    cases e1 : vkey v with
    | none => rw [e1] at h; cases h
    | some k =>
      cases e2 : vkeys vs with
      | none => rw [e1, e2] at h; cases h
      | some ks =>
        rw [e1, e2] at h
        cases h
        cases r with
        | cons r1 r2 =>
          cases ru with
          | cons u1 u2 => exact .cons (key_at I v _ _ k r1 u1 e1) (keys_at I vs _ _ ks r2 u2 e2)
end
end
/-- the keys of a list of tuples -/
def tkeys : List Val → Option (List NestedKey)
  | [] => some []
  | .tup us :: vs => match vkeys us, tkeys vs with
    | some k, some ks => some (.tup k :: ks)
    | _, _ => none
  | _ :: _ => none
def ddN : List NestedKey → List NestedKey
  | [] => []
  | a :: l => if a ∈ l then ddN l else a :: ddN l
theorem mem_ddN {k : NestedKey} : ∀ {l : List NestedKey}, k ∈ ddN l ↔ k ∈ l
  | [] => Iff.rfl
  | a :: l => by
    unfold ddN
    by_cases h : a ∈ l
    · rw [if_pos h, mem_ddN, List.mem_cons]
      exact ⟨.inr, fun z => z.elim (fun e => e ▸ h) id⟩
    · rw [if_neg h, List.mem_cons, List.mem_cons, mem_ddN]
theorem nodup_ddN : ∀ l : List NestedKey, (ddN l).Nodup
  | [] => List.nodup_nil
  | a :: l => by
    unfold ddN
    by_cases h : a ∈ l
    · rw [if_pos h]; exact nodup_ddN l
    · rw [if_neg h, List.nodup_cons]; exact ⟨fun z => h (mem_ddN.mp z), nodup_ddN l⟩
def mLenSetN (m : ME) : ME := fun ρ st => (m ρ st).bind fun v st1 => match readL v st1 with
  | some vs => (match tkeys vs with
    | some ks => if ks.length < 16 ∧ ∀ k ∈ ks, k.depth ≤ 7 then .ok (.int ((ddN ks).length : Nat)) st1 else .stuck
    | none => .stuck)
  | none => .stuck
section
variable {X : Cx} {W : WX} {a : Expr} {p p2 q pos : Pos} {m : ME} {j : Nat}
theorem tkeys_at {pins : List (Addr × Obj)} {σ : L2.St} {H : Hp} {s : Shared} {hd μ : List Addr} (I : Inv X pins σ H s) : ∀ (vs : List Val) (xs : List V) (us : List Value) (ks : List NestedKey), RepL X.K X.mg hd μ H vs xs → Vals xs us → tkeys vs = some ks →
    ∃ ps : List (Addr × NestedKey), us = ps.map (fun p => Value.ref p.1) ∧ ps.map (·.2) = ks ∧ ∀ p ∈ ps, NestedIs s.heap p.2 (.ref p.1) ∧ nums p.2 = true
  | [], _, _, _, r, ru, h => by
    cases h
    cases r
    cases ru
    exact ⟨[], rfl, rfl, fun p hp => nomatch hp⟩
  | v :: vs, _, _, _, r, ru, h => by
    cases v with
    | tup us =>
      simp only [tkeys] at h
      cases e1 : vkeys us with
      | none => rw [e1] at h; cases h
      | some k =>
        cases e2 : tkeys vs with
        | none => rw [e1, e2] at h; cases h
        | some ks =>
          rw [e1, e2] at h
          cases h
          cases r with
          | cons r1 r2 =>
            cases ru with
            | cons u1 u2 =>
              have e3 : vkey (.tup us) = some (.tup k) := by simp only [vkey, e1, Option.map]
              have h1 := key_at I _ _ _ _ r1 u1 e3
              obtain ⟨ps, h2, h3, h4⟩ := tkeys_at I vs _ _ ks r2 u2 e2
              cases r1 with
              | @tup b xs _ _ _ =>
                cases u1
                exact ⟨(b, .tup k) :: ps, by rw [h2]; rfl, by rw [List.map_cons, h3], fun p hp => by
                  rcases List.mem_cons.mp hp with rfl | hp
                  · exact ⟨h1, vkey_nums _ _ e3⟩
                  · exact h4 p hp⟩
    | _ => cases h
theorem d_lenSetN (hc : X.calm = true) (hr : Room j X.A) (hg : Gl X "len") (hm : X.mg "len" = none) (hg2 : Gl X "set") (hm2 : X.mg "set" = none) (ha : PE X a (TD X.K X.mg W m))
    (na : starEach [a] X.env = (false, eval a X.env) :: starEach [] X.env := by rfl) : PE X (.Call (.Name "len" p) [.Call (.Name "set" p2) [a] [] q] [] pos) (TD X.K X.mg W (mLenSetN m)) := by
  refine ⟨fun pins s σ H Q I ⟨hd, μ, ρ, st, S, G⟩ => ?_⟩
  refine Call_ (ld_blt I hg hm boot_len ?_)
  refine PyProof.Rows.callWith_builtin1 (PyProof.Rows.args_cons ?_ rfl) rfl rfl
  refine Call_ (ld_blt I hg2 hm2 boot_set ?_)
  have T : TD X.K X.mg W m σ H (fun x H1 => ∃ (l : Addr) (hd μ : List Addr) (vs : List Val) (xs : List V) (ks : List NestedKey), x = .ref l ∧ SqL X.K H1 l xs ∧ RepL X.K X.mg hd μ H1 vs xs ∧ tkeys vs = some ks ∧ ks.length < 16 ∧ (∀ k ∈ ks, k.depth ≤ 7) ∧ Q (.int ((ddN ks).length : Nat)) H1) := by
    refine ⟨hd, μ, ρ, st, S, Good.imp (Good.bind G) (fun μ1 st1 H1 v e1 o1 G1 x rx => ?_) fun _ _ h => h⟩
    cases hi : readL v st1 with
    | none => simp only [hi] at G1; exact G1.elim
    | some vs =>
      simp only [hi] at G1
      cases hk : tkeys vs with
      | none => simp only [hk] at G1; exact G1.elim
      | some ks =>
        simp only [hk] at G1
        by_cases hz : ks.length < 16 ∧ ∀ k ∈ ks, k.depth ≤ 7
        · rw [if_pos hz] at G1
          obtain ⟨l, xs, rfl, h1, h2⟩ := readL_at o1 rx hi
          exact ⟨l, hd, μ1, vs, xs, ks, rfl, h1, h2, hk, hz.1, hz.2, G1.here o1 _ (.int _)⟩
        · rw [if_neg hz] at G1
          exact G1.elim
  refine PyProof.Rows.callWith_type1 (PyProof.Rows.args_cons (thn (ha.run pins s σ H _ I T) fun v s1 ⟨x, H1, I1, r1, q1⟩ => PyProof.Rows.args_nil ?_) na) na rfl
  obtain ⟨l, hd1, μ1, vs, xs, ks, rfl, hq, hrp, hk, hl, hdp, q1⟩ := q1
  cases r1
  obtain ⟨its, r, pl, hz⟩ := I1.list hq
  obtain ⟨ps, h1, h2, h3⟩ := tkeys_at I1 vs xs its ks hrp r hk
  have hpl : ps.length = ks.length := by rw [← h2, List.length_map]
  refine call_setN ps (I1.ok.hd hc) pl.isList (by simpa using h1) (fun p hp => ⟨(h3 p hp).1, hdp _ (by rw [← h2]; exact List.mem_map_of_mem hp), (h3 p hp).2⟩) (by omega) (by have := hr.un; omega) fun h' tk L es ep t R g k => ?_
  refine PyProof.Rows.args_nil ?_
  obtain ⟨o, ho, hex, hd'⟩ := R.ob
  have hlen : es.size = (ddN ks).length := by
    rw [rowsN_len R.rows, ← List.length_map (as := L) (·.2)]
    refine len_of_mems R.nd (nodup_ddN ks) fun k => ?_
    rw [g.all k, List.take_length, h2, mem_ddN]
  have I2 : Inv X pins σ H1 { s1 with heap := h', toks := tk } := I1.kept fun b o e => k b o e
  have hf := R.fits (s := { s1 with heap := h', toks := tk })
  exact call_len_set ho hex hd' hf (by rw [rowsN_len R.rows]; have := R.few; omega) ⟨.int ((ddN ks).length : Nat), H1, I2.tok _, ⟨_, by rw [hlen]⟩, q1⟩
end
end DL

/-! enumerate(list), k in dict, x in list of data, list.pop(), list.index of ints, products of great numbers. -/
namespace DL
open PySem PySem.Spec PyProof.Rows L2
section
variable {K : PySem.W.Frag} {mg : Str → Option Value} {hd : List Addr} {μ : List Addr} {H : Hp} {st : Sto}
theorem wk_enumL {a : Addr} {vs : List Val} {xs : List V} (h : ∀ μ' H', Ext μ H μ' H' → SqL K H' a xs) (r : RepL K mg hd μ H vs xs) (z : xs.length ≤ sizeLine) : Wk K mg hd μ H (Ite K a) ⟨enumF 0 vs, none⟩ where
  go hd' hh i μ' st' H' e _ _ hi := by
    have hi : i < xs.length := by rw [← r.len, ← enumF_len vs 0]; exact hi
    exact ⟨xs, xs[i], h _ _ e, List.getElem?_eq_getElem hi⟩
  stop hd' hh i μ' st' H' e _ _ hi := ⟨xs, h _ _ e, by rw [← r.len, ← enumF_len vs 0]; exact hi⟩
  yld hd' hh i μ' st' H' x H2 e o _ hy hi := by
    obtain ⟨T, y, rfl, hT, rfl, hx⟩ := hy
    obtain ⟨v, hv, rv⟩ := (RepL.ext e _ _ (RepL.rehide hh _ _ r)).get' (hx xs (h _ _ e))
    refine ⟨_, (by have := enumF_get vs 0 i v hv; rw [Nat.zero_add] at this; exact this), Ext.obj hT, o.obj hT, .tup (.inl (.inl upd_same)) (.cons (.int _) (.cons (Rep.ext (Ext.obj hT) _ _ rv) .nil))⟩
  len := by rw [enumF_len, r.len]; exact z
end
def enumItL : Val → Sto → Res Walk
  | .lst vs, st => .ok ⟨enumF 0 vs, none⟩ st
  | _, _ => .stuck
def mEnumL (m : ME) : MI := fun ρ st => (m ρ st).bind enumItL
section
variable {X : Cx} {W : WX} {m : ME}
theorem di_enumL {a : Expr} {p pos tpos : Pos} {elts : List Expr} {kk : Nat} (hg : Gl X "enumerate") (hm : X.mg "enumerate" = none) (ha : PE X a (TD X.K X.mg W m)) (hs : starEach [a] X.env = [(false, eval a X.env)] := by rfl) :
    PI X (.Tuple elts kk tpos) (.Call (.Name "enumerate" p) [a] [] pos) (TDI X.K X.mg W (mEnumL m)) :=
  PI.imp (pi_enum hg hm (pa_cons (PE.facts (F := fun _ H => Sz X.K H) ha fun _ _ _ _ _ I => sz_of I) pa_nil hs) hs) fun σ H R ⟨hd, μ, ρ, st, S, G⟩ => ⟨hd, μ, ρ, st, S, Good.imp (Good.bind G) (fun μ1 st1 H1 v e1 o1 G1 x rx z => by
    cases rx with
    | lst r1 r2 r0 r3 => exact ⟨_, _, rfl, SqL.of r1, G1.here o1 _ (wk_enumL (fun μ' H' e => SqL.of (e.out _ _ r1 r2)) r3 (z _ _ (.inl (SqL.of r1))))⟩
    | _ => exact G1.elim) fun _ _ h => h⟩
end
/-! ### k in d -/
def inKF (k v : Val) (st : Sto) : Res Val := match dictOf v st, keyD k with
  | some kvs, some q => .ok (.bl (valV kvs q).isSome) st
  | _, _ => .stuck
theorem inKF_ne : NoExc2 inKF := fun v w st c st' h => by
  unfold inKF at h
  split at h <;> cases h
theorem inKF_ok {X : Cx} (hu : X.A.units + 64 < cLine) : OpD X (compareOp .In) inKF := by
  intro pins s σ H x y v u Q I rv ru ⟨hd, μ, st, v', w', o, r1, r2, G⟩
  unfold inKF at G
  cases hq : dictOf w' st with
  | none => rw [hq] at G; exact G.elim
  | some kvs =>
    cases hk : keyD v' with
    | none => rw [hq, hk] at G; exact G.elim
    | some q =>
      rw [hq, hk] at G
      obtain ⟨p, rfl, rd⟩ := dictOf_at o r2 hq
      obtain rfl := r1.key hk
      obtain rfl : u = Value.ref p := ru
      exact d_in (by omega) I (.inl ⟨kvs, q, rd, rfl, rfl⟩) rv fun s' I' => ⟨.bl _, H, I', rfl, G.here o _ (.bl _)⟩
/-! ### x in xs, xs a list of data -/
theorem units65 {k : Nat} {A : Around} (hr : Room k A) : A.units + 65 < cLine := by have := hr.un; omega
def hasD (v w : Val) (st : Sto) : Option Bool := match topData v st, topData w st with
  | some d, some (.list ds) => if SeqAt.shaped d = true ∧ SeqAt.shaped (.list ds) = true then some (ds.any fun z => PyData.eqv z d) else none
  | _, _ => none
def inDF (v w : Val) (st : Sto) : Res Val := match hasD v w st with
  | some b => .ok (.bl b) st
  | none => .stuck
def niDF (v w : Val) (st : Sto) : Res Val := match hasD v w st with
  | some b => .ok (.bl (!b)) st
  | none => .stuck
theorem inDF_ne : NoExc2 inDF := fun v w st c st' h => by unfold inDF at h; split at h <;> cases h
theorem niDF_ne : NoExc2 niDF := fun v w st c st' h => by unfold niDF at h; split at h <;> cases h
theorem hasD_at {K : PySem.W.Frag} {mg : Str → Option Value} {hd : List Addr} {μ : List Addr} {H : Hp} {st : Sto} (o : StoOk K mg hd μ st H) {v w : Val} {x y : V} {b : Bool} (r1 : Rep K mg hd μ H v x) (r2 : Rep K mg hd μ H w y) (h : hasD v w st = some b) :
    ∃ d ds, Dp K H x d ∧ Dp K H y (.list ds) ∧ SeqAt.shaped d = true ∧ SeqAt.shaped (.list ds) = true ∧ b = ds.any fun z => PyData.eqv z d := by
  unfold hasD at h
  split at h
  · rename_i d ds h1 h2
    split at h
    · rename_i hs
      cases h
      exact ⟨d, ds, topData_dp o r1 h1, topData_dp o r2 h2, hs.1, hs.2, rfl⟩
    · cases h
  · cases h
theorem inDF_ok {X : Cx} (hu : X.A.units + 65 < cLine) : OpD X (compareOp .In) inDF := by
  intro pins s σ H x y v u Q I rv ru ⟨hd, μ, st, v', w', o, r1, r2, G⟩
  unfold inDF at G
  cases hb : hasD v' w' st with
  | none => rw [hb] at G; exact G.elim
  | some b =>
    rw [hb] at G
    obtain ⟨d, ds, h1, h2, h3, h4, rfl⟩ := hasD_at o r1 r2 hb
    exact op_inD hu pins s σ H x _ v u Q I rv ru ⟨d, ds, h1, h2, h3, h4, G.here o _ (.bl _)⟩
theorem niDF_ok {X : Cx} (hu : X.A.units + 65 < cLine) : OpD X (compareOp .NotIn) niDF := by
  intro pins s σ H x y v u Q I rv ru ⟨hd, μ, st, v', w', o, r1, r2, G⟩
  unfold niDF at G
  cases hb : hasD v' w' st with
  | none => rw [hb] at G; exact G.elim
  | some b =>
    rw [hb] at G
    obtain ⟨d, ds, h1, h2, h3, h4, rfl⟩ := hasD_at o r1 r2 hb
    exact op_notInD hu pins s σ H x _ v u Q I rv ru ⟨d, ds, h1, h2, h3, h4, G.here o _ (.bl _)⟩
/-! ### xs.pop(), xs.index(k) -/
def popF : FM := fun v vs st => match v, vs with
  | .ref l, [] => match lstAt st l with
    | some ws => match ws[ws.length - 1]? with
      | some y => .ok y (st.set l (.lst ws.dropLast))
      | none => .stuck
    | none => .stuck
  | _, _ => .stuck
theorem popF_ne : NoExcM popF := fun v vs st c st' h => by
  unfold popF at h
  split at h
  · split at h
    · split at h <;> cases h
    · cases h
  · cases h
theorem pop_ok {X : Cx} : MtR X "list.pop" (rM X.K X.mg popF) := by
  intro pins s σ H x xs v us Q I rx rxs ⟨hd, μ, st, v', vs, o, r1, r2, G⟩
  unfold popF at G
  split at G
  · rename_i l
    cases hq : lstAt st l with
    | none => simp only [hq] at G; exact G.elim
    | some ws =>
      simp only [hq] at G
      cases hy : ws[ws.length - 1]? with
      | none => simp only [hy] at G; exact G.elim
      | some y =>
        simp only [hy] at G
        cases r1 with
        | ref hl =>
          obtain ⟨ys, h1, h2⟩ := lstAt_ok o hl hq
          obtain ⟨z, h3, h4⟩ := h2.get hy
          cases r2
          have h5 : RepL X.K X.mg hd μ H ws.dropLast ys.dropLast := by
            rw [List.dropLast_eq_take, List.dropLast_eq_take, ← h2.len]
            exact h2.take _
          obtain ⟨e, o'⟩ := set_lst o hl h1 h5
          exact mt_pop pins s σ H _ _ v us Q I rx rxs ⟨_, ys, z, rfl, rfl, h1, by rw [← h2.len]; exact h3, G μ _ e o' _ (Rep.ext e _ _ h4)⟩
  · exact G.elim
def indexLF : FM := fun v vs st => match v, vs with
  | v, [.int k] => match (readL v st).bind intsOf with
    | some ns => if k ∈ ns then .ok (.int (ns.idxOf k : Nat)) st else .stuck
    | none => .stuck
  | _, _ => .stuck
theorem indexLF_ne : NoExcM indexLF := fun v vs st c st' h => by
  unfold indexLF at h
  split at h
  · split at h
    · split at h <;> cases h
    · cases h
  · cases h
theorem indexL_ok {X : Cx} : MtR X "list.index" (rM X.K X.mg indexLF) := by
  intro pins s σ H x xs v us Q I rx rxs ⟨hd, μ, st, v', vs, o, r1, r2, G⟩
  unfold indexLF at G
  split at G
  · rename_i k
    cases hq : readL v' st with
    | none => simp only [hq, Option.bind] at G; exact G.elim
    | some ws =>
      simp only [hq, Option.bind] at G
      cases hi : intsOf ws with
      | none => simp only [hi] at G; exact G.elim
      | some ns =>
        simp only [hi] at G
        split at G
        · rename_i hm
          obtain ⟨a, ys, rfl, h1, h2⟩ := readL_at o r1 hq
          rw [intsOf_eq hi] at h2
          obtain rfl := RepL.ints h2
          cases r2 with
          | cons h3 h4 =>
            cases h3
            cases h4
            have hlt : ns.idxOf k < ns.length := List.idxOf_lt_length_of_mem hm
            have hat : ns[ns.idxOf k]? = some k := by rw [List.getElem?_eq_getElem hlt, List.getElem_idxOf]
            refine mt_index pins s σ H _ _ v us Q I rx rxs ⟨a, _, .int k, ns.idxOf k, .int k, rfl, rfl, h1, rfl, ?_, ?_, ?_, fun m z hm' hz => ?_, G.here o _ (.int _)⟩
            · rw [List.all_map, List.all_eq_true]
              exact fun _ _ => rfl
            · rw [List.getElem?_map, hat]
              rfl
            · simp [eqV]
            · rw [List.getElem?_map] at hz
              cases hg : ns[m]? with
              | none => rw [hg] at hz; cases hz
              | some j =>
                rw [hg] at hz
                cases hz
                obtain ⟨hml, ej⟩ := List.getElem?_eq_some_iff.mp hg
                have : j ≠ k := fun e => by
                  subst e
                  have := List.not_of_lt_findIdx (p := (· == j)) (xs := ns) hm'
                  rw [ej] at this
                  simp at this
                simp [eqV, this]
        · exact G.elim
  · exact G.elim
/-! ### great products -/
noncomputable def mulWF (v w : Val) (st : Sto) : Res Val := match v, w with
  | .int i, .int j => @ite _ (CMulW i j) (Classical.propDecidable _) (.ok (.int (i * j)) st) .stuck
  | _, _ => .stuck
theorem mulWF_ne : NoExc2 mulWF := fun v w st c st' h => by
  unfold mulWF at h
  split at h
  · split at h <;> cases h
  · cases h
theorem mulWF_ok {X : Cx} : OpD X (binaryOp .Mult) mulWF := ints_ok (g' := fun i j => .int (i * j)) op_mulW (fun v w st h => by
  unfold mulWF at h ⊢
  split at h
  · rename_i i j
    split at h
    · rename_i hc
      exact ⟨i, j, rfl, rfl, hc, by rw [if_pos hc]⟩
    · exact absurd rfl h
  · exact absurd rfl h) fun i j _ _ _ => .int _
end DL

/-! New lists that become cells: sorted(..), sorted(d.items()), xs + ys; defs that tell such a list. -/
namespace DL
open PySem PySem.Spec PyProof.Rows L2
theorem StoOk.grow1 {K : PySem.W.Frag} {mg : Str → Option Value} {hd μ : List Addr} {st : Sto} {H H' : Hp} {p : Addr} {c : Cell} (ok : StoOk K mg hd μ st H) (k : ∀ b u, H b = some u → H' b = some u) (hp : H p = none) (hc : CellOk K mg hd (μ ++ [p]) H' p c) : StoOk K mg hd (μ ++ [p]) (st ++ [c]) H' := by
  have e : Ext μ H (μ ++ [p]) H' := ⟨⟨[p], rfl⟩, fun a u h _ => k a u h, fun a xs h => h.imp (fun h => k _ _ h) fun ⟨q, h⟩ => ⟨q, k _ _ h⟩, fun a q u h => k _ _ h, fun a h n => by
    rw [List.mem_append] at h
    rcases h with h | h
    · exact absurd h n
    · rw [List.mem_singleton] at h
      rw [h]
      exact hp⟩
  have hn : p ∉ μ := nin_of ok hp
  refine ⟨by rw [List.length_append, List.length_append, ok.len]; rfl, ?_, fun l a d h1 h2 => ?_, fun b hb => ?_⟩
  · rw [List.nodup_append]
    exact ⟨ok.nd, by simp, fun a ha b hb => by
      rw [List.mem_singleton] at hb
      rintro rfl
      exact hn (hb ▸ ha)⟩
  · by_cases hl : l < μ.length
    · rw [List.getElem?_append_left hl] at h1
      rw [List.getElem?_append_left (by rw [← ok.len]; exact hl)] at h2
      exact (ok.cell l a d h1 h2).ext e fun u hu => k _ _ hu
    · have e1 : l = μ.length := by
        have := (List.getElem?_eq_some_iff.mp h1).1
        rw [List.length_append, List.length_singleton] at this
        omega
      subst e1
      rw [List.getElem?_append_right (Nat.le_refl _), Nat.sub_self] at h1
      rw [ok.len, List.getElem?_append_right (Nat.le_refl _), Nat.sub_self] at h2
      simp at h1 h2
      subst h1
      subst h2
      exact hc
  · obtain ⟨h1, o, h2⟩ := ok.hid b hb
    refine ⟨fun h => ?_, o, k _ _ h2⟩
    rw [List.mem_append, List.mem_singleton] at h
    rcases h with h | rfl
    · exact h1 h
    · rw [hp] at h2; cases h2
/-! ### sorted(xs) -/
open Classical in
noncomputable def mSortC (ms : MA) : MC := fun ρ st => (ms ρ st).bind fun vs st1 => match vs with
  | [v] => (match seqOf v st1 with
    | some us => if SortOk us then .ok (.lst (sortV us)) st1 else .stuck
    | none => .stuck)
  | _ => .stuck
def rSortN (K : PySem.W.Frag) (mg : Str → Option Value) : List V → Hp → VK → Prop := fun xs H Q => ∃ hd μ st v us, StoOk K mg hd μ st H ∧ RepL K mg hd μ H [v] xs ∧ seqOf v st = some us ∧ SortOk us ∧
  ∀ ys p, H p = none → RepL K mg hd μ H (sortV us) ys → Q (.ref p) (upd H p (.lst ys))
theorem sorted_runN {X : Cx} {pins : List (Addr × Obj)} {s : Shared} {σ : St} {H : Hp} {hd μ : List Addr} {st : Sto} {u : Value} {us : List Value} {xs : List V} {vs : List Val} {Q : VK} {k : Nat} (hr : Room k X.A) (I : Inv X pins σ H s) (o : StoOk X.K X.mg hd μ st H) (r : RepL X.K X.mg hd μ H vs xs) (rv : Vals xs us) (hz : us.length ≤ sizeLine)
    (hcol : ∀ (A' : Around) (E' : Value → Shared → Prop) (Q' : List Value → Shared → Prop), A'.handled = X.A.handled → (∀ h' t', (∀ b o, s.heap.get? b = some o → h'.get? b = some o) → s.heap.objs.size ≤ h'.objs.size → Q' us { s with heap := h', toks := t' }) → wpAny (model X.prog X.w) A' (collect u) Q' E' s)
    (ok : SortOk vs) (q : ∀ ys p, H p = none → RepL X.K X.mg hd μ H (sortV vs) ys → Q (.ref p) (upd H p (.lst ys))) : wpAny (model X.prog X.w) X.A (call (.builtin "sorted") [u]) (EP X pins σ Q) X.xe s := by
  obtain ⟨ds, h1, h2, h3, h4⟩ := ok
  obtain ⟨rfl, h5⟩ := datas_map h1
  have es := stands_of r rv
  refine sorted_gen (enc := Val.enc) hcol es (reads_of I es h5) h2 h3 (by rw [← es.length]; exact hz) (fun b hb => ?_) fun p out h' t' hp hk ⟨n, ho⟩ hl he => ?_
  · have := h4 _ (List.mem_map_of_mem hb)
    have := hr.un
    omega
  · obtain ⟨ys, h6, r6⟩ := of_stands he
    have hlen : ys.length ≤ sizeLine := by rw [r6.length, hl, ← es.length]; exact hz
    have hpn : H p = none := I.hok.fresh hp
    have I2 : Inv X pins σ (upd H p (.lst ys)) { s with heap := h', toks := t' } := I.laid hk hp ⟨hlen, out, n, r6, ho⟩
    exact ⟨.ref p, _, I2, rfl, q _ _ hpn h6⟩
theorem sorted_callN {X : Cx} {k : Nat} (hr : Room k X.A) : CallR X (.builtin "sorted") (rSortN X.K X.mg) := by
  intro pins s σ H xs us' Q I rv0 ⟨hd, μ, st, v, vs, o, r0, hs, hk, q⟩
  cases r0 with
  | cons r1 r2 =>
    cases r2
    obtain ⟨u, rfl, ru⟩ := vals1 rv0
    obtain ⟨a, xs, rfl, h1, h2⟩ := seqOf_at o r1 hs
    cases ru
    rcases h1 with h1 | h1
    · obtain ⟨its, rv, hl, hz⟩ := I.list h1
      have hl := hl.isList
      obtain ⟨ob, ho, hc, n, hd'⟩ := hl
      exact sorted_runN hr I o h2 rv (by rw [← rv.length]; exact hz) (fun A' E' Q' _ hq => collect_sz a (.inl rfl) ho hc hd' (by rw [List.size_toArray, ← rv.length]; exact hz) fun h' k z => hq h' s.toks k z) hk q
    · obtain ⟨its, rv, hl, hz⟩ := I.tuple h1
      obtain ⟨ob, ho, hc, n, hd'⟩ := hl
      exact sorted_runN hr I o h2 rv (by rw [← rv.length]; exact hz) (fun A' E' Q' _ hq => collect_sz a (.inr rfl) ho hc hd' (by rw [List.size_toArray, ← rv.length]; exact hz) fun h' k z => hq h' s.toks k z) hk q
section
variable {X : Cx} {W : WX} {x : Str} {p pos apos cpos : Pos} {e : Expr} {ms : MA} {m : ME}
theorem df_sort {k : Nat} (hr : Room k X.A) (hg : Gl X x) (hm : X.mg x = none) (hv : bootBuiltins x = some (.builtin "sorted")) (ha : PA X [e] (TDA X.K X.mg W ms)) (hn : x ≠ "__name__" := by decide) (hdb : (x == ("__debug__" : Str)) = false := by decide)
    (he : starEach [e] X.env = (false, eval e X.env) :: starEach [] X.env := by rfl) (hpl : (backTo pos (starEach [] X.env)).any (·.1) = false := by rfl) : PE X (.Call (.Name x p) [e] [] pos) (TDF X.K X.mg W (mSortC ms)) :=
  PE.imp (pe_callB (sorted_callN hr) hg hm hv ha hn hdb he hpl) fun σ H Q ⟨hd, μ, ρ, st, S, G⟩ => ⟨hd, μ, ρ, st, S, Good.imp (Good.bind G) (fun μ1 st1 H1 vs e1 o1 G1 xs rxs => by
    cases rxs with
    | nil => exact G1.elim
    | cons r1 r2 =>
      cases r2 with
      | cons _ _ => exact G1.elim
      | nil =>
        dsimp only at G1
        cases hs : seqOf _ st1 with
        | none => rw [hs] at G1; exact G1.elim
        | some us =>
          rw [hs] at G1
          dsimp only at G1
          by_cases hk : SortOk us
          · rw [if_pos hk] at G1
            exact ⟨hd, μ1, st1, _, us, o1, .cons r1 .nil, hs, hk, fun ys p hp r => df_of S.sto e1 o1 r G1 p hp⟩
          · rw [if_neg hk] at G1
            exact G1.elim) fun _ _ h => h⟩
/-! ### xs + ys -/
def mCatC (ma mb : ME) : MC := fun ρ st => (ma ρ st).bind fun v st1 => (mb ρ st1).bind fun w st2 => match listOf v st2, listOf w st2 with
  | some vs, some ws => if vs.length + ws.length ≤ sizeLine then .ok (.lst (vs ++ ws)) st2 else .stuck
  | _, _ => .stuck
theorem df_cat {a b : Expr} {ma mb : ME} (ha : PE X a (TD X.K X.mg W ma)) (hb : PE X b (TD X.K X.mg W mb)) : PE X (.BinOp a .Add b pos) (TDF X.K X.mg W (mCatC ma mb)) :=
  PE.imp (pe_op op_cat ha hb) fun σ H Q ⟨hd, μ, ρ, st, S, G⟩ => ⟨hd, μ, ρ, st, S, Good.imp (Good.bind G) (fun μ1 st1 H1 v e1 o1 G1 x rx => by
    refine ⟨hd, μ1, ρ, st1, S.ext e1 o1, Good.imp (Good.bind G1) (fun μ2 st2 H2 w e2 o2 G2 y ry => ?_) fun _ _ h => h⟩
    have rx := Rep.ext e2 _ _ rx
    cases e3 : listOf v st2 with
    | none => rw [e3] at G2; exact G2.elim
    | some vs =>
      cases e4 : listOf w st2 with
      | none => rw [e3, e4] at G2; exact G2.elim
      | some ws =>
        rw [e3, e4] at G2
        dsimp only at G2
        by_cases hz : vs.length + ws.length ≤ sizeLine
        · rw [if_pos hz] at G2
          obtain ⟨a, xs, rfl, h1, h2⟩ := listOf_at o2 rx e3
          obtain ⟨b, ys, rfl, h3, h4⟩ := listOf_at o2 ry e4
          exact ⟨a, b, xs, ys, rfl, rfl, h1, h3, by rw [← h2.len, ← h4.len]; exact hz, fun p hp => df_of S.sto (e1.trans e2) o2 (h2.append h4) G2 p hp⟩
        · rw [if_neg hz] at G2
          exact G2.elim) fun _ _ h => h⟩
/-! ### sorted(d.items()) -/
open Classical in
noncomputable def sortItK (v : Val) (st : Sto) : Res Cell := match (dictOf v st).bind pairsV with
  | some ps => if SortOk ps then .ok (.lst (sortV ps)) st else .stuck
  | none => .stuck
noncomputable def mSortItC (m : ME) : MC := fun ρ st => (m ρ st).bind sortItK
theorem df_sortItems (hc : X.calm = true) (hu : X.A.units + 64 < cLine) (he : PE X e (TD X.K X.mg W m)) (hg : Gl X x) (hm : X.mg x = none) (hv : bootBuiltins x = some (.builtin "sorted")) (hn : x ≠ "__name__" := by decide) (hdb : (x == ("__debug__" : Str)) = false := by decide)
    (hbase : attributeBase e "items" X.env (eval e X.env) = eval e X.env := by rfl) (hline : (apos.endLine == cpos.line) = true := by rfl)
    (hs : starEach [.Call (.Attribute e "items" apos) [] [] cpos] X.env = (false, eval (.Call (.Attribute e "items" apos) [] [] cpos) X.env) :: starEach [] X.env := by rfl) :
    PE X (.Call (.Name x p) [.Call (.Attribute e "items" apos) [] [] cpos] [] pos) (TDF X.K X.mg W (mSortItC m)) := by
  refine ⟨fun pins s σ H Q I ⟨hd, μ, ρ, st, S, G⟩ => ?_⟩
  refine wpAny_Call_Name_kw (ld_blt I hg hm hv ?_ hn hdb)
  refine PyProof.Rows.callWith_builtin1 ?_ hs rfl
  rw [hs]
  show wpAny _ _ (spliced ((false, eval (.Call (.Attribute e "items" apos) [] [] cpos) X.env) :: backTo pos (starEach [] X.env))) _ _ s
  refine Calls.spliced_cons ?_
  refine wpAny_Call_method (T := "dict") (id := "dict.items") hbase rfl hline F.plainAttrs_dict F.slot_dict_items F.type_dict_items (thn (he.run pins s σ H (fun y H' => ∃ μ' st' v, Ext μ H μ' H' ∧ StoOk X.K X.mg hd μ' st' H' ∧ Rep X.K X.mg hd μ' H' v y ∧
    Good X.K X.mg hd μ' H' (sortItK v st') (fun μ' st' H' c => ∀ a, H a = none → a ∉ μ' → a ∉ hd → CellOk X.K X.mg hd μ' H' a c → StoOk X.K X.mg hd (μ' ++ [a]) (st' ++ [c]) H' → Q (.ref a) H') (gW X.mg W σ)) I ⟨hd, μ, ρ, st, S, Good.imp (Good.bind G) (fun μ' st' H' v e o k y ry => ⟨μ', st', v, e, o, ry, k⟩) fun _ _ h => h⟩) fun y s1 hy => ?_)
  obtain ⟨xv, H1, I1, rx, μ1, st1, v, e0, o1, rv, G1⟩ := hy
  unfold sortItK at G1
  cases hq : dictOf v st1 with
  | none => rw [hq] at G1; exact G1.elim
  | some kvs =>
    cases hps : pairsV kvs with
    | none => simp only [hq, Option.bind, hps] at G1; exact G1.elim
    | some ps =>
      simp only [hq, Option.bind, hps] at G1
      by_cases hso : SortOk ps
      · rw [if_pos hso] at G1
        obtain ⟨d, rfl, rd⟩ := dictOf_at o1 rv hq
        obtain rfl : y = Value.ref d := rx
        obtain ⟨hz, hs0, us, hkv, hdo⟩ := rd.ok I1.hok
        obtain ⟨ep, hat⟩ := hdo.dictAt
        have lenk := Paired.length hkv
        have lenp := pairsV_len hps
        have I2 : Inv X pins σ H1 { s1 with heap := s1.heap.push { cls := .type "dict_items", data := .fields #[.ref d] } } := I1.kept (t' := s1.toks) fun b ob q => Heap.get?_push_of_some _ q
        refine ⟨hdo.typeIs, hdo.mapOf.noDict, ?_⟩
        show wpAny _ _ (callWith cpos (.builtin "dict.items") [.ref d] [] []) _ X.xe s1
        refine method_meetsIn F.slot_dict_items F.entry_dict_items rfl (PySem.evalArgs_none ⟨rfl, hdo.typeIs, F.args_dict_items_1 _, _, meets_dict_items (mixKind X.prog X.w) d hs0, ⟨us, hdo⟩, ?_⟩)
        refine Calls.spliced_nil ?_
        obtain ⟨ds, hd1, hd2, hd3, hd4⟩ := hso
        obtain ⟨rfl, hd5⟩ := datas_map hd1
        generalize hS : ({ s1 with heap := s1.heap.push { cls := .type "dict_items", data := .fields #[.ref d] } } : Shared) = s2 at I2
        have hview : s2.heap.IsItemsView s1.heap.objs.size d := by
          rw [← hS]
          exact ⟨_, Heap.get?_push_size _ rfl, rfl, rfl⟩
        have hat2 : s2.heap.DictAt (mixKind X.prog X.w) d us ep := by
          rw [← hS]
          exact hat.push _
        refine sorted_dep (s := s2) (bs := ps) (enc := Val.enc) (R := fun h vs u b => PairAt h vs ps u b) (Cn := Pairs X.prog X.w s2.heap us)
          (fun A' E' Q' ha hq' => PySem.W.kdx_collect (knd := mixKind X.prog X.w) (kvs := us) (ep := ep) (ha.trans (I1.ok.hd hc)) hview hat2 (by omega) fun h' tk as hk hl hG => hq' h' tk _ hk ⟨as, rfl, hl, hG⟩) ?_ hd2 hd3 (by omega) (fun b hb => ?_) ?_
        · rintro h' vs ⟨as, rfl, hl, hG⟩
          have ix : ∀ (j : Nat) (u : Value), (as.map Value.ref)[j]? = some u → ∃ a, as[j]? = some a ∧ u = .ref a := fun j u e => by
            rw [List.getElem?_map] at e
            cases q : as[j]? with
            | none => rw [q] at e; cases e
            | some a => rw [q] at e; cases e; exact ⟨a, rfl, rfl⟩
          have ll : (as.map Value.ref).length = ps.length := by rw [List.length_map]; omega
          refine ⟨eachIs_of ll fun j u b e1 e2 => ?_, eachIs_of ll fun j u b e1 e2 => ?_⟩
          · obtain ⟨a, _, rfl⟩ := ix j u e1
            exact ⟨j, a, e1, rfl, e2⟩
          · obtain ⟨a, ea, rfl⟩ := ix j u e1
            obtain ⟨key, k, x, f1, f2, f3⟩ := hG.pairs j a ea
            have hj : j < kvs.length := by rw [lenk]; exact (List.getElem?_eq_some_iff.mp f1).1
            obtain ⟨qv, g1, g2, g3⟩ := LiI.paired_get hkv (List.getElem?_eq_getElem hj)
            rw [f1] at g1
            cases g1
            obtain ⟨z, z1, z2⟩ := pairsV_at hps (List.getElem?_eq_getElem hj)
            rw [e2] at z2
            cases z2
            have rk : RelV (kV kvs[j].1) key := by
              have : kvs[j].1 = k := g2
              rw [this]
              exact relV_key (show keyIs k key = true from f2)
            obtain ⟨d1, w1, w2⟩ := reads_keyV (h := h') rk
            obtain ⟨d2, w3, w4⟩ := reads_flat (h := h') z1 g3
            have en : Val.enc (.tup [keyV kvs[j].1, z]) = .tuple [d1, d2] := by simp [Val.enc, Val.data, Val.datas, w1, w3]
            rw [en]
            exact ⟨_, .tuple f3 rfl rfl (.cons w2 (.cons w4 .nil))⟩
        · have := hd4 _ (List.mem_map_of_mem hb)
          omega
        · rintro h1 vs p' out h' t' ⟨as, rfl, hl, hG⟩ hk1 hp' hk2 ⟨n, ho⟩ hlen he'
          have outs : ∀ {us : List Value} {bs : List Val}, PySem.W.EachIs (PairAt h1 (as.map Value.ref) ps) us bs → ∃ os : List Addr, us = os.map Value.ref := by
            intro us bs r
            induction r with
            | nil => exact ⟨[], rfl⟩
            | cons h _ ih =>
              obtain ⟨j, a, _, rfl, _⟩ := h
              obtain ⟨os, rfl⟩ := ih
              exact ⟨a :: os, rfl⟩
          obtain ⟨os, rfl⟩ := outs he'
          rw [List.length_map] at hlen
          have nd : as.Nodup := hG.rise.imp fun h => Nat.ne_of_lt h
          obtain ⟨H', c1, c2, c3, c4, J⟩ := pairs_laid (p := p') (n := n) (tk := t') (os := os) (as := as) I2 (by omega) hkv (fun b o q => hk2 b o (hk1 b o q)) ho hl nd
            (fun a ha => by
              cases q : s2.heap.get? a with
              | none => rfl
              | some o => exact absurd (hG.above a ha) (Nat.not_lt.mpr (Nat.le_of_lt (Heap.lt_size q))))
            (by
              cases q : s2.heap.get? p' with
              | none => rfl
              | some o =>
                have := Heap.lt_size (hk1 _ _ q)
                rw [← hp'] at this
                exact absurd this (Nat.lt_irrefl _))
            (fun ha => by
              have := hG.there ha
              rw [← hp'] at this
              exact absurd this (Nat.lt_irrefl _))
            (fun j a ea => by
              obtain ⟨key, k, x, f1, f2, f3⟩ := hG.pairs j a ea
              exact ⟨key, k, x, f1, relV_key (show keyIs k key = true from f2), hk2 _ _ f3⟩)
          obtain ⟨os', e', rr⟩ := reps_of (K := X.K) (mg := X.mg) (hd := hd) (μ := μ1) hps c4 he'
          obtain ⟨os2, e3, rr2⟩ := reps_of (K := X.K) (mg := X.mg) (hd := hd) (μ := μ1 ++ [p']) hps c4 he'
          have : os' = os := ((List.map_inj_right fun _ _ q => by cases q; rfl).mp e').symm
          subst this
          have : os2 = os' := ((List.map_inj_right fun _ _ q => by cases q; rfl).mp e3).symm
          subst this
          obtain ⟨e2, o2⟩ := o1.grow c1
          exact ⟨.ref p', H', J, rfl, G1 μ1 H' e2 o2 p' (fresh_of S.sto e0 o1 c2) (nin_of o1 c2) (nhid_of o1 c2) ⟨_, c3, rr⟩ (o1.grow1 c1 c2 ⟨_, c3, rr2⟩)⟩
      · rw [if_neg hso] at G1
        exact G1.elim
end
/-! ### a def that tells a new list: its cell -/
/-- B's list, wherever its cell stands behind, is F's: the cell behind all others -/
def TrimN (st : Sto) (v' : Val) (st' : Sto) (v : Val) (st1 : Sto) : Prop :=
  ∃ s0 c l, st1 = s0 ++ [c] ∧ v = .ref s0.length ∧ v' = .ref l ∧ s0.length ≤ l ∧ st'[l]? = some c ∧ st.length ≤ s0.length ∧ (∃ g, st' = s0 ++ g) ∧ (∀ c, c ∈ s0 → c ∈ st ∨ ClC s0.length c) ∧ ClC s0.length c
def RefinesN (F B : FV) : Prop := ∀ args st, ClS st → ClL st.length args → match F args st with
  | .ok v st1 => ∃ v' st', B args st = .ok v' st' ∧ TrimN st v' st' v st1
  | .exc c st1 => ∃ st', B args st = .exc c st' ∧ Trim st .non st' .non st1
  | .stuck => True
section
variable {K : PySem.W.Frag} {mg : Str → Option Value} {hd : List Addr} {μ μ' : List Addr} {H H' : Hp} {st st' st1 : Sto} {v v' : Val} {x : V}
def Sub (n : Nat) (μ μ2 : List Addr) : Prop := (∀ b, b ∈ μ2 → b ∈ μ) ∧ ∀ l, l < n → μ2[l]? = μ[l]?
section
variable {K : PySem.W.Frag} {mg : Str → Option Value} {hd : List Addr} {μ μ2 : List Addr} {H : Hp} {n : Nat}
mutual
theorem Rep.sub (hs : Sub n μ μ2) : ∀ (v : Val) (x : V), ClV n v → Rep K mg hd μ H v x → Rep K mg hd μ2 H v x
  | .non, _, c, h => by cases h; exact .non
  | .bl b, _, c, h => by cases h; exact .bl b
  | .int i, _, c, h => by cases h; exact .int i
  | .str i, _, c, h => by cases h; exact .str i
  | .tup vs, _, c, h => by
    cases h with
    | tup h1 h2 => cases c with | tup c => exact .tup h1 (RepL.sub hs vs _ c h2)
  | .tpl vs, _, c, h => by
    cases h with
    | tpl h1 h2 => cases c with | tpl c => exact .tpl h1 (RepL.sub hs vs _ c h2)
  | .tpk vs, _, c, h => by
    cases h with
    | tpk h1 h2 h3 h4 => cases c with | tpk c => exact .tpk h1 (fun q => h2 (hs.1 _ q)) h3 (RepL.sub hs vs _ c h4)
  | .lst vs, _, c, h => by
    cases h with
    | lst h1 h2 h3 h4 => cases c with | lst c => exact .lst h1 (fun q => h2 (hs.1 _ q)) h3 (RepL.sub hs vs _ c h4)
  | .rol vs, _, c, h => by
    cases h with
    | rol h1 h2 => cases c with | rol c => exact .rol h1 (RepL.sub hs vs _ c h2)
  | .dic kvs, _, c, h => by
    cases h with
    | dic h1 h2 h3 => exact .dic h1 (fun q => h2 (hs.1 _ q)) h3
  | .dit kvs, _, c, h => by
    cases h with
    | dit h1 h2 h3 => exact .dit h1 (fun q => h2 (hs.1 _ q)) h3
  | .ref l, _, c, h => by
    cases h with
    | ref h1 => cases c with | ref c => exact .ref (by rw [hs.2 _ c]; exact h1)
  | .fn x, _, c, h => by
    cases h with
    | fn h1 => exact .fn h1
theorem RepL.sub (hs : Sub n μ μ2) : ∀ (vs : List Val) (xs : List V), ClL n vs → RepL K mg hd μ H vs xs → RepL K mg hd μ2 H vs xs
  | [], _, c, h => by cases h; exact .nil
  | v :: vs, _, c, h => by
    cases h with
    | cons h1 h2 => cases c with | cons c1 c2 => exact .cons (Rep.sub hs v _ c1 h1) (RepL.sub hs vs _ c2 h2)
end
theorem RepF.sub (hs : Sub n μ μ2) : ∀ {fs : List (Str × Val)} {xs : List (Str × V)}, (∀ f v, (f, v) ∈ fs → ClV n v) → RepF K mg hd μ H fs xs → RepF K mg hd μ2 H fs xs
  | _, _, _, .nil => .nil
  | _, _, c, .cons h1 h2 => .cons (Rep.sub hs _ _ (c _ _ List.mem_cons_self) h1) (RepF.sub hs (fun f v h => c f v (List.mem_cons_of_mem _ h)) h2)
theorem CellOk.sub (hs : Sub n μ μ2) {a : Addr} {c : Cell} (k : ClC n c) (h : CellOk K mg hd μ H a c) : CellOk K mg hd μ2 H a c := by
  cases c with
  | lst vs => obtain ⟨xs, h1, r⟩ := h; exact ⟨xs, h1, RepL.sub hs _ _ k r⟩
  | ins c fs => obtain ⟨C, dx, fs', h1, h2, r⟩ := h; exact ⟨C, dx, fs', h1, h2, RepF.sub hs k r⟩
  | dic => exact h
  | dit => exact h
  | rod => exact h
end
theorem trimN_sto (T : TrimN st v' st' v st1) (o : StoOk K mg hd μ st H) (e : Ext μ H μ' H') (o' : StoOk K mg hd μ' st' H') (r : Rep K mg hd μ' H' v' x) : ∃ μ2, Ext μ H μ2 H' ∧ StoOk K mg hd μ2 st1 H' ∧ Rep K mg hd μ2 H' v x := by
  obtain ⟨s0, c, l, rfl, rfl, rfl, hl, hc, h1, ⟨g, rfl⟩, h3, hcl⟩ := T
  have hlen : s0.length ≤ μ'.length := by rw [o'.len, List.length_append]; omega
  have hpre : μ.length ≤ s0.length := by rw [o.len]; exact h1
  cases r with
  | @ref l p hp =>
    have hn : (μ'.take s0.length).length = s0.length := by rw [List.length_take]; omega
    have sub : Sub s0.length μ' (μ'.take s0.length ++ [p]) := ⟨fun b hb => by
      rcases List.mem_append.mp hb with hb | hb
      · exact List.mem_of_mem_take hb
      · rw [List.mem_singleton.mp hb]; exact List.mem_of_getElem? hp, fun l hl => by
      rw [List.getElem?_append_left (by rw [hn]; exact hl), List.getElem?_take_of_lt hl]⟩
    have np : p ∉ μ'.take s0.length := fun q => by
      obtain ⟨i, hi⟩ := List.getElem?_of_mem q
      have hi2 : i < s0.length := by
        have := (List.getElem?_eq_some_iff.mp hi).1
        rw [hn] at this
        exact this
      rw [List.getElem?_take_of_lt hi2] at hi
      have := o'.idx hi hp
      omega
    refine ⟨μ'.take s0.length ++ [p], ⟨?_, e.out, e.tup, e.frz, fun a h n => e.new a (sub.1 a h) n⟩, ⟨by rw [List.length_append, List.length_append, hn]; rfl, ?_, fun j a d q1 q2 => ?_, fun b hb => ?_⟩, .ref ?_⟩
    · obtain ⟨ν, q⟩ := e.pre
      refine ⟨ν.take (s0.length - μ.length) ++ [p], ?_⟩
      rw [q, List.take_append, List.take_of_length_le hpre, List.append_assoc]
    · rw [List.nodup_append]
      exact ⟨o'.nd.sublist (List.take_sublist _ _), by simp, fun a ha b hb => by
        rw [List.mem_singleton] at hb
        rintro rfl
        exact np (hb ▸ ha)⟩
    · by_cases hj : j < s0.length
      · rw [sub.2 j hj] at q1
        rw [List.getElem?_append_left hj] at q2
        have k := o'.cell j a d q1 (by rw [List.getElem?_append_left hj]; exact q2)
        rcases h3 d (List.mem_of_getElem? q2) with m | m
        · obtain ⟨i, hi⟩ := List.getElem?_of_mem m
          obtain ⟨b, _, _, kb⟩ := o.at hi
          exact k.sub sub (ClC.mono (by rw [o.len]; exact h1) kb.cl)
        · exact k.sub sub m
      · have ej : j = s0.length := by
          have := (List.getElem?_eq_some_iff.mp q2).1
          rw [List.length_append, List.length_singleton] at this
          omega
        subst ej
        rw [List.getElem?_append_right (by rw [hn]; exact Nat.le_refl _), hn, Nat.sub_self] at q1
        rw [List.getElem?_append_right (Nat.le_refl _), Nat.sub_self] at q2
        simp at q1 q2
        subst q1
        subst q2
        exact (o'.cell l p c hp hc).sub sub hcl
    · obtain ⟨q1, ob, q2⟩ := o'.hid b hb
      exact ⟨fun q => q1 (sub.1 b q), ob, q2⟩
    · rw [List.getElem?_append_right (by rw [hn]; exact Nat.le_refl _), hn, Nat.sub_self]
      rfl
end
theorem sp_refinesN {K : PySem.W.Frag} {mg : Str → Option Value} {F B : FV} (R : RefinesN F B) (vs : List V) (H : Hp) (Q : VK) (E : XK) (h : spD K mg F vs H Q E) : spD K mg B vs H Q E := by
  obtain ⟨hd, μ, st, args, o, r, G⟩ := h
  refine ⟨hd, μ, st, args, o, r, ?_⟩
  have k1 : ClS st := fun c hm => by
    obtain ⟨i, hi⟩ := List.getElem?_of_mem hm
    obtain ⟨b, _, _, kb⟩ := o.at hi
    have := kb.cl
    rw [o.len] at this
    exact this
  have k2 : ClL st.length args := by
    have := RepL.cl _ _ r
    rw [o.len] at this
    exact this
  have R := R args st k1 k2
  cases hf : F args st with
  | ok v st1 =>
    rw [hf] at R G
    obtain ⟨v', st', e, T⟩ := R
    rw [e]
    intro μ' H' e' o' x rx
    obtain ⟨μ2, e2, o2, r2⟩ := trimN_sto T o e' o' rx
    exact G _ H' e2 o2 x r2
  | exc c st1 =>
    rw [hf] at R G
    obtain ⟨st', e, T⟩ := R
    rw [e]
    intro μ' H' e' o'
    obtain ⟨e2, o2⟩ := trim_sto T o e' o'
    exact G _ H' e2 o2
  | stuck => rw [hf] at G; exact G.elim
theorem Cal.refineN {P : Program} {w : World} {K : PySem.W.Frag} {mg : Str → Option Value} {base : Heap} {k : Nat} {x : Str} {F B : FV} (c : Cal P w K mg base k x B) (R : RefinesN F B) : Cal P w K mg base k x F := by
  obtain ⟨f, fd, ps, G, h1, h2, h3⟩ := c.ex
  exact ⟨f, fd, ps, G.imp fun vs H Q E h => sp_refinesN R vs H Q E h, h1, h2, h3⟩
section
variable {P : Program} {w : World} {K : PySem.W.Frag} {mg : Str → Option Value} {base : Heap}
theorem cal_ofN {x : Str} {st : Stmt} {N ps : List Str} {k : Nat} {body : MS} {F : FV} (T : DefT K mg x st ps) (S : FnScope N ps (defScope st)) (R : RefinesN F (runB ps.length N.length body))
    (hbody : ∀ (f : Addr) (cdv : Value) (A : Around) (outer : List Env) (s : Shared) (H : Hp) (E : XK), Room k (A.deeper (envOfC x (defScope st) s.heap.objs.size f cdv)) →
      PSs (cxOf (L2.CX P w) P w K mg base N x (defScope st) f cdv A outer s H E) (defBody st) (TDS K mg (fun cls d _ H => E cls d H) body)) : Cal P w K mg base (k + 1) x F := by
  obtain ⟨f, fd, Fu, hm, b⟩ := T.ex
  exact Cal.refineN ⟨f, fd, ps, fn_d Fu S (hbody f), hm, Fu.kp, b⟩ R
end
/-! what tells a new list as a value, telling its cell -/
def promR : Res Val → Res Val
  | .ok (.lst vs) st => .ok (.ref st.length) (st ++ [.lst vs])
  | .ok _ _ => .stuck
  | r => r
def newF (F : FV) : FV := fun args st => promR (F args st)
def promS : ResS → ResS
  | .ret (.lst vs) st => .ret (.ref st.length) (st ++ [.lst vs])
  | .ret _ _ => .stuck
  | r => r
def NoRet (a : MS) : Prop := ∀ ρ st v st', a ρ st ≠ .ret v st'
def Prom (m mC : MS) : Prop := ∀ ρ st, mC ρ st = promS (m ρ st) ∧ ∀ l st', m ρ st ≠ .ret (.ref l) st'
theorem noRet_set {i : Nat} {m : ME} : NoRet (mSet i m) := fun ρ st v st' h => by
  unfold mSet at h
  cases hm : m ρ st <;> rw [hm] at h <;> cases h
theorem noRet_drop {m : ME} : NoRet (mDrop m) := fun ρ st v st' h => by
  unfold mDrop at h
  cases hm : m ρ st <;> rw [hm] at h <;> cases h
theorem noRet_next : NoRet mNext := fun ρ st v st' h => by cases h
theorem noRet_raise {c : Str} : NoRet (mRaise c) := fun ρ st v st' h => by cases h
theorem noRet_seq {a b : MS} (ha : NoRet a) (hb : NoRet b) : NoRet (mSeq a b) := fun ρ st v st' h => by
  unfold mSeq at h
  cases hm : a ρ st with
  | next ρ1 st1 => rw [hm] at h; exact hb _ _ _ _ h
  | ret v1 st1 => exact ha _ _ _ _ hm
  | brk => rw [hm] at h; cases h
  | cnt => rw [hm] at h; cases h
  | exc => rw [hm] at h; cases h
  | stuck => rw [hm] at h; cases h
theorem noRet_if {c : MT} {a b : MS} (ha : NoRet a) (hb : NoRet b) : NoRet (mIfS c a b) := fun ρ st v st' h => by
  unfold mIfS at h
  cases hm : c ρ st with
  | ok k st1 =>
    rw [hm] at h
    dsimp only at h
    split at h
    · exact ha _ _ _ _ h
    · exact hb _ _ _ _ h
  | exc => rw [hm] at h; cases h
  | stuck => rw [hm] at h; cases h
theorem noRet_loop {t : Tg} {body : MS} {g : Option (Nat × Cell)} (hb : NoRet body) : ∀ (vs : List Val) ρ st v st', loop t body g vs ρ st ≠ .ret v st' := by
  intro vs
  induction vs with
  | nil =>
    intro ρ st v st' h
    unfold loop at h
    split at h <;> cases h
  | cons x vs ih =>
    intro ρ st v st' h
    unfold loop at h
    split at h
    · cases ha : t.asg x ρ with
      | none => rw [ha] at h; cases h
      | some ρ' =>
        rw [ha] at h
        dsimp only at h
        cases hm : body ρ' st with
        | next => rw [hm] at h; exact ih _ _ _ _ h
        | cnt => rw [hm] at h; exact ih _ _ _ _ h
        | brk => rw [hm] at h; cases h
        | ret => exact hb _ _ _ _ hm
        | exc => rw [hm] at h; cases h
        | stuck => rw [hm] at h; cases h
    · cases h
theorem noRet_for {mi : MI} {t : Tg} {body : MS} (hb : NoRet body) : NoRet (mFor mi t body) := fun ρ st v st' h => by
  unfold mFor at h
  cases hm : mi ρ st with
  | ok w st1 => rw [hm] at h; exact noRet_loop hb _ _ _ _ _ h
  | exc => rw [hm] at h; cases h
  | stuck => rw [hm] at h; cases h
theorem withE_ne {r : Res Val} {ρ : Rho} {k : Val → Sto → ResS} {w : Val} {st' : Sto} (h : ∀ v st, k v st ≠ .ret w st') : withE r ρ k ≠ .ret w st' := fun q => by
  unfold withE at q
  cases r with
  | ok v st => exact h _ _ q
  | exc => cases q
  | stuck => cases q
theorem noRet_setIx {mo mi mv : ME} : NoRet (mSetIx mo mi mv) := fun ρ st v st' => withE_ne fun _ _ => withE_ne fun _ _ => withE_ne fun _ _ => by
  intro q
  split at q
  · split at q
    · split at q <;> cases q
    · cases q
  · cases q
theorem noRet_dput {mo mi mv : ME} : NoRet (mDPut mo mi mv) := fun ρ st v st' => withE_ne fun _ _ => withE_ne fun _ _ => withE_ne fun _ _ => by
  intro q
  split at q
  · split at q
    · split at q <;> cases q
    · cases q
  · cases q
theorem prom_seq {a m mC : MS} (ha : NoRet a) (h : Prom m mC) : Prom (mSeq a m) (mSeq a mC) := fun ρ st => by
  unfold mSeq
  cases hm : a ρ st with
  | next ρ1 st1 => exact h ρ1 st1
  | ret v st1 => exact absurd hm (ha _ _ _ _)
  | brk => exact ⟨rfl, fun _ _ q => by cases q⟩
  | cnt => exact ⟨rfl, fun _ _ q => by cases q⟩
  | exc => exact ⟨rfl, fun _ _ q => by cases q⟩
  | stuck => exact ⟨rfl, fun _ _ q => by cases q⟩
theorem prom_sortIt {m : ME} : Prom (mRet (mUn sortItF m)) (mRet (mNew (mSortItC m))) := fun ρ st => by
  unfold mRet mUn mNew mSortItC
  cases hm : m ρ st with
  | ok v st1 =>
    simp only [Res.bind]
    unfold sortItF sortItK
    cases (dictOf v st1).bind pairsV with
    | none => exact ⟨rfl, fun _ _ q => by cases q⟩
    | some ps =>
      dsimp only
      by_cases hk : SortOk ps
      · rw [if_pos hk, if_pos hk]
        exact ⟨rfl, fun _ _ q => by cases q⟩
      · rw [if_neg hk, if_neg hk]
        exact ⟨rfl, fun _ _ q => by cases q⟩
  | exc => exact ⟨rfl, fun _ _ q => by cases q⟩
  | stuck => exact ⟨rfl, fun _ _ q => by cases q⟩
theorem prom_sort {ms : MA} : Prom (mRet (mCall (lift1 sortG) ms)) (mRet (mNew (mSortC ms))) := fun ρ st => by
  unfold mRet mCall mNew mSortC
  cases hm : ms ρ st with
  | ok vs st1 =>
    match vs with
    | [] => exact ⟨rfl, fun _ _ q => by cases q⟩
    | _ :: _ :: _ => exact ⟨rfl, fun _ _ q => by cases q⟩
    | [v] =>
      simp only [Res.bind, lift1, sortG]
      cases seqOf v st1 with
      | none => exact ⟨rfl, fun _ _ q => by cases q⟩
      | some us =>
        dsimp only
        by_cases hk : SortOk us
        · rw [if_pos hk, if_pos hk]
          exact ⟨rfl, fun _ _ q => by cases q⟩
        · rw [if_neg hk, if_neg hk]
          exact ⟨rfl, fun _ _ q => by cases q⟩
  | exc => exact ⟨rfl, fun _ _ q => by cases q⟩
  | stuck => exact ⟨rfl, fun _ _ q => by cases q⟩
theorem prom_comp {mi : MI} {t : Tg} {cond : MT} {elt : ME} {ws : List Nat} : Prom (mRet (mVal (mComp mi t cond elt ws))) (mRet (mNew (mComp mi t cond elt ws))) := fun ρ st => by
  unfold mRet mVal mNew mComp
  cases hm : mi ρ st with
  | ok w st1 =>
    simp only [Res.bind]
    cases compLoop t cond elt w.guard (wipeR ρ ws) w.items [] st1 with
    | ok vs st2 => exact ⟨rfl, fun _ _ q => by cases q⟩
    | exc => exact ⟨rfl, fun _ _ q => by cases q⟩
    | stuck => exact ⟨rfl, fun _ _ q => by cases q⟩
  | exc => exact ⟨rfl, fun _ _ q => by cases q⟩
  | stuck => exact ⟨rfl, fun _ _ q => by cases q⟩
theorem refinesN {n N : Nat} {m mC : MS} {F : FV} (h : Prom m mC) (R : Refines F (runB n N m)) : RefinesN (newF F) (runB n N mC) := fun args st k1 k2 => by
  have R := R args st k1 k2
  have e : (∀ vs st1, runB n N m args st = .ok (.lst vs) st1 → runB n N mC args st = .ok (.ref st1.length) (st1 ++ [.lst vs])) ∧ (∀ c st1, runB n N m args st = .exc c st1 → runB n N mC args st = .exc c st1) ∧ ∀ l st', runB n N m args st ≠ .ok (.ref l) st' := by
    unfold runB
    by_cases hn : args.length = n
    · rw [if_pos hn, if_pos hn]
      obtain ⟨h1, h2⟩ := h (args.map some ++ List.replicate (N - n) none) st
      rw [h1]
      cases hm : m (args.map some ++ List.replicate (N - n) none) st with
      | ret v st1 =>
        rw [hm] at h2
        cases v with
        | ref l => exact absurd rfl (h2 l st1)
        | lst vs => exact ⟨fun _ _ q => (by cases q; rfl), fun _ _ q => (by cases q), fun _ _ q => (by cases q)⟩
        | _ => exact ⟨fun _ _ q => (by cases q), fun _ _ q => (by cases q), fun _ _ q => (by cases q)⟩
      | next => exact ⟨fun _ _ q => (by cases q), fun _ _ q => (by cases q), fun _ _ q => (by cases q)⟩
      | exc => exact ⟨fun _ _ q => (by cases q), fun _ _ q => (by cases q; rfl), fun _ _ q => (by cases q)⟩
      | brk => exact ⟨fun _ _ q => (by cases q), fun _ _ q => (by cases q), fun _ _ q => (by cases q)⟩
      | cnt => exact ⟨fun _ _ q => (by cases q), fun _ _ q => (by cases q), fun _ _ q => (by cases q)⟩
      | stuck => exact ⟨fun _ _ q => (by cases q), fun _ _ q => (by cases q), fun _ _ q => (by cases q)⟩
    · rw [if_neg hn, if_neg hn]
      exact ⟨fun _ _ q => (by cases q), fun _ _ q => (by cases q), fun _ _ q => (by cases q)⟩
  unfold newF
  cases hf : F args st with
  | stuck => trivial
  | exc c st1 =>
    rw [hf] at R
    obtain ⟨st', e1, T⟩ := R
    exact ⟨st', e.2.1 _ _ e1, T⟩
  | ok v st1 =>
    rw [hf] at R
    obtain ⟨v', st', e1, h1, ⟨g, rfl⟩, h3, h4⟩ := R
    cases v with
    | lst vs =>
      rcases h4 with ⟨rfl, hc⟩ | ⟨l, c, rfl, _⟩
      · refine ⟨_, _, e.1 _ _ e1, st1, .lst vs, (st1 ++ g).length, rfl, rfl, rfl, by simp, by simp, h1, ⟨g ++ [.lst vs], by simp⟩, h3, ?_⟩
        cases hc with
        | lst hc => exact hc
      · exact absurd e1 (e.2.2 _ _)
    | _ => trivial
end DL

/-! Texts: signs one by one, join, split, str(n), int(text), text * n. -/
namespace DL
open PySem PySem.Spec PyProof.Rows L2
def signs (x : Str) : List Val := x.cps.toList.map fun c => Val.str ⟨#[c]⟩
def itemsS : Val → Sto → Res Walk
  | .str x, st => if x.length ≤ sizeLine then .ok ⟨signs x, none⟩ st else .stuck
  | _, _ => .stuck
def mItS (m : ME) : MI := fun ρ st => (m ρ st).bind itemsS
section
variable {K : PySem.W.Frag} {mg : Str → Option Value} {hd : List Addr} {μ : List Addr} {H : Hp} {st : Sto}
theorem signs_len (x : Str) : (signs x).length = x.cps.size := by simp [signs]
theorem signs_at {x : Str} {i c : Nat} (h : x.cps[i]? = some c) : (signs x)[i]? = some (Val.str ⟨#[c]⟩) := by
  unfold signs
  rw [List.getElem?_map, Array.getElem?_toList, h]
  rfl
theorem wk_str {x : Str} (z : x.length ≤ sizeLine) : Wk K mg hd μ H (Its x) ⟨signs x, none⟩ where
  go hd' hh i μ' st' H' e _ _ hi := by
    show i < x.cps.size
    rw [← signs_len]
    exact hi
  stop hd' hh i μ' st' H' e _ _ hi := by
    show x.cps.size ≤ i
    rw [← signs_len]
    exact hi
  yld hd' hh i μ' st' H' v H2 e o _ hy hi := by
    obtain ⟨rfl, c, hc, rfl⟩ := hy
    exact ⟨_, signs_at hc, Ext.refl, o, .str _⟩
  len := by rw [signs_len]; exact z
/-- a list of texts -/
def strsOf : List Val → Option (List Str)
  | [] => some []
  | .str x :: vs => (strsOf vs).map fun xs => x :: xs
  | _ :: _ => none
theorem strsOf_eq : ∀ {vs : List Val} {xs : List Str}, strsOf vs = some xs → vs = xs.map Val.str
  | [], _, h => by cases h; rfl
  | v :: vs, _, h => by
    cases v with
    | str x =>
      simp only [strsOf] at h
      cases e : strsOf vs with
      | none => rw [e] at h; cases h
      | some ys =>
        rw [e] at h
        cases h
        rw [strsOf_eq e]
        rfl
    | _ => cases h
theorem strsOf_map : ∀ xs : List Str, strsOf (xs.map Val.str) = some xs
  | [] => rfl
  | x :: xs => by simp only [List.map_cons, strsOf, strsOf_map xs, Option.map]
theorem RepL.strs : ∀ {ys : List Str} {xs : List V}, RepL K mg hd μ H (ys.map Val.str) xs → xs = ys.map V.str
  | [], _, h => by cases h; rfl
  | n :: ns, _, h => by
    cases h with
    | cons h1 h2 => cases h1; rw [RepL.strs h2]; rfl
theorem RepL.of_strs : ∀ (ys : List Str), RepL K mg hd μ H (ys.map Val.str) (ys.map V.str)
  | [] => .nil
  | n :: ns => .cons (.str n) (RepL.of_strs ns)
end
def mJoin (mo me : ME) : ME := fun ρ st => (mo ρ st).bind fun v st1 => match v with
  | .str a => (me ρ st1).bind fun w st2 => match (seqOf w st2).bind strsOf with
    | some ys => if (ys.map (·.length)).sum + ys.length * a.length ≤ 16777216 then .ok (.str (Txt.join a ys)) st2 else .stuck
    | none => .stuck
  | _ => .stuck
def mSplit (mo me : ME) : ME := fun ρ st => (mo ρ st).bind fun v st1 => match v with
  | .str a => (me ρ st1).bind fun w st2 => match w with
    | .str b => if (b.length == 0) = false ∧ a.length + 2 ≤ sizeLine then .ok (.lst ((Txt.split a b).map Val.str)) st2 else .stuck
    | _ => .stuck
  | _ => .stuck
def inSF (v w : Val) (st : Sto) : Res Val := match v, w with
  | .str x, .str z => (match x.cps.toList with
    | [c] => .ok (.bl (decide (c ∈ z.cps.toList))) st
    | _ => .stuck)
  | _, _ => .stuck
theorem inSF_ne : NoExc2 inSF := fun v w st c st' h => by
  unfold inSF at h
  split at h
  · split at h <;> cases h
  · cases h
noncomputable def strG (v : Val) (st : Sto) : Option Val := match v with
  | .int i => @ite _ (-1000000 ≤ i ∧ i ≤ 1000000) (Classical.propDecidable _) (some (.str (Str.ofString (toString i)))) none
  | _ => none
def intTG (v : Val) (st : Sto) : Option Val := match v with
  | .str a => (match PySem.intText? a with
    | some n => if a.length ≤ 640 then some (.int n) else none
    | none => none)
  | v => intG v st
def mulSF (v w : Val) (st : Sto) : Res Val := match v, w with
  | .str x, .int k => if k = 0 then .ok (.str Str.empty) st else if k = 1 then .ok (.str x) st else .stuck
  | _, _ => .stuck
theorem mulSF_ne : NoExc2 mulSF := fun v w st c st' h => by
  unfold mulSF at h
  split at h
  · split at h
    · cases h
    · split at h <;> cases h
  · cases h
section
variable {X : Cx} {W : WX} {tg e o : Expr} {m mo me : ME}
theorem di_str (h : PE X e (TD X.K X.mg W m)) : PI X tg e (TDI X.K X.mg W (mItS m)) :=
  PI.imp (pi_str h) fun σ H R ⟨hd, μ, ρ, st, S, G⟩ => ⟨hd, μ, ρ, st, S, Good.imp (Good.bind G) (fun μ1 st1 H1 v e1 o1 G1 x rx => by
    cases rx with
    | str x =>
      unfold itemsS at G1
      dsimp only at G1
      by_cases hz : x.length ≤ sizeLine
      · rw [if_pos hz] at G1
        exact ⟨x, rfl, G1.here o1 _ (wk_str hz)⟩
      · rw [if_neg hz] at G1
        exact G1.elim
    | _ => exact G1.elim) fun _ _ h => h⟩
theorem inSF_ok : OpD X (compareOp .In) inSF := by
  intro pins s σ H x y v u Q I rv ru ⟨hd, μ, st, v', w', o, r1, r2, G⟩
  unfold inSF at G
  split at G
  · rename_i a z
    split at G
    · rename_i c hc
      cases r1
      cases r2
      have ea : a = ⟨#[c]⟩ := by rw [← SX.S_tl a, hc]
      subst ea
      exact op_in_sign pins s σ H _ _ v u Q I rv ru ⟨c, z, rfl, rfl, G.here o _ (.bl _)⟩
    · exact G.elim
  · exact G.elim
theorem d_join {apos pos : Pos} (ho : PE X o (TD X.K X.mg W mo)) (he : PE X e (TD X.K X.mg W me)) (hs : starEach [e] X.env = [(false, eval e X.env)] := by rfl) (hbase : attributeBase o "join" X.env (eval o X.env) = eval o X.env := by rfl) (hline : (apos.endLine == pos.line) = true := by rfl) :
    PE X (.Call (.Attribute o "join" apos) [e] [] pos) (TD X.K X.mg W (mJoin mo me)) :=
  PE.imp (pe_join ho he hs hbase hline) fun σ H Q ⟨hd, μ, ρ, st, S, G⟩ => ⟨hd, μ, ρ, st, S, Good.imp (Good.bind G) (fun μ1 st1 H1 v e1 o1 G1 x rx => by
    cases rx with
    | str a =>
      refine ⟨⟨a, rfl⟩, hd, μ1, ρ, st1, S.ext e1 o1, Good.imp (Good.bind G1) (fun μ2 st2 H2 w e2 o2 G2 y ry => ?_) fun _ _ h => h⟩
      cases hq : seqOf w st2 with
      | none => rw [hq] at G2; exact G2.elim
      | some vs =>
        cases hy : strsOf vs with
        | none => simp only [hq, Option.bind, hy] at G2; exact G2.elim
        | some ys =>
          simp only [hq, Option.bind, hy] at G2
          by_cases hz : (ys.map (·.length)).sum + ys.length * a.length ≤ 16777216
          · rw [if_pos hz] at G2
            obtain ⟨p, xs, rfl, h1, h2⟩ := seqOf_at o2 ry hq
            have hv := strsOf_eq hy
            subst hv
            have := RepL.strs h2
            subst this
            exact ⟨a, p, ys, rfl, rfl, h1, hz, G2.here o2 _ (.str _)⟩
          · rw [if_neg hz] at G2
            exact G2.elim
    | _ => exact G1.elim) fun _ _ h => h⟩
theorem d_split {apos pos : Pos} (ho : PE X o (TD X.K X.mg W mo)) (he : PE X e (TD X.K X.mg W me)) (hs : starEach [e] X.env = [(false, eval e X.env)] := by rfl) (hbase : attributeBase o "split" X.env (eval o X.env) = eval o X.env := by rfl) (hline : (apos.endLine == pos.line) = true := by rfl) :
    PE X (.Call (.Attribute o "split" apos) [e] [] pos) (TD X.K X.mg W (mSplit mo me)) :=
  PE.imp (pe_split ho he hs hbase hline) fun σ H Q ⟨hd, μ, ρ, st, S, G⟩ => ⟨hd, μ, ρ, st, S, Good.imp (Good.bind G) (fun μ1 st1 H1 v e1 o1 G1 x rx => by
    cases rx with
    | str a =>
      refine ⟨⟨a, rfl⟩, hd, μ1, ρ, st1, S.ext e1 o1, Good.imp (Good.bind G1) (fun μ2 st2 H2 w e2 o2 G2 y ry => ?_) fun _ _ h => h⟩
      cases ry with
      | str b =>
        dsimp only at G2
        by_cases hz : (b.length == 0) = false ∧ a.length + 2 ≤ sizeLine
        · rw [if_pos hz] at G2
          exact ⟨a, b, rfl, rfl, hz.1, hz.2, fun p hp => G2 μ2 _ (Ext.obj hp) (o2.obj hp) _ (new_lst o2 (RepL.of_strs _) hp)⟩
        · rw [if_neg hz] at G2
          exact G2.elim
      | _ => exact G2.elim
    | _ => exact G1.elim) fun _ _ h => h⟩
theorem small_log {i : Int} (h1 : -1000000 ≤ i) (h2 : i ≤ 1000000) : i.natAbs.log2 < 1920 := by
  by_cases h : i.natAbs = 0
  · rw [h]; decide
  · refine Nat.lt_of_lt_of_le (Nat.log2_lt h |>.mpr (Nat.lt_of_lt_of_le (show i.natAbs < 2 ^ 20 by omega) (Nat.pow_le_pow_right (by decide) (by decide : 20 ≤ 21)))) (by decide)
theorem str_ok : CallD X (.type "str") (lift1 strG) := call1 lift1_of fun pins s σ H x u Q hd μ st v r I ru o r1 g q => by
  unfold strG at g
  split at g
  · rename_i i
    by_cases hi : -1000000 ≤ i ∧ i ≤ 1000000
    · rw [if_pos hi] at g
      cases g
      cases r1
      exact call_str_int pins s σ H _ _ Q I (.cons ru .nil) ⟨i, rfl, small_log hi.1 hi.2, q μ H _ Ext.refl o (.str _)⟩
    · rw [if_neg hi] at g
      cases g
  · cases g
theorem intT_ok : CallD X (.type "int") (lift1 intTG) := call1 lift1_of fun pins s σ H x u Q hd μ st v r I ru o r1 g q => by
  unfold intTG at g
  split at g
  · rename_i a
    split at g
    · rename_i n hn
      split at g
      · rename_i hl
        cases g
        cases r1
        exact call_int_str pins s σ H _ _ Q I (.cons ru .nil) ⟨a, n, rfl, hn, hl, q μ H _ Ext.refl o (.int _)⟩
      · cases g
    · cases g
  · unfold intG at g
    split at g
    · cases g
      cases r1
      exact call_int1 pins s σ H _ _ Q I (.cons ru .nil) (.inl ⟨_, rfl, q μ H _ Ext.refl o (.int _)⟩)
    · cases g
      cases r1
      exact call_int1 pins s σ H _ _ Q I (.cons ru .nil) (.inr ⟨_, rfl, q μ H _ Ext.refl o (.int _)⟩)
    · cases g
theorem mulSF_ok : OpD X (binaryOp .Mult) mulSF := by
  intro pins s σ H x y v u Q I rv ru ⟨hd, μ, st, v', w', o, r1, r2, G⟩
  unfold mulSF at G
  split at G
  · rename_i a k
    cases r1
    cases r2
    obtain ⟨t, rfl⟩ := id rv
    obtain ⟨t', rfl⟩ := id ru
    split at G
    · rename_i hk
      subst hk
      refine PySem.SB.mul ⟨by decide, fun h => absurd (by decide) h, fun h => absurd (by decide) h⟩ fun t2 k2 => ⟨.str _, H, I.tok k2, ⟨t2, rfl⟩, ?_⟩
      have e : Txt.mul a 0 = Str.empty := by unfold Txt.mul; rw [if_pos (by decide)]
      rw [e]
      exact G.here o _ (.str _)
    · split at G
      · rename_i hk
        subst hk
        have e : Txt.mul a 1 = a := by unfold Txt.mul; rw [if_neg (by decide), if_pos (by simp)]
        refine PySem.SB.mul ⟨by decide, fun _ h => by simp at h, fun _ h => by simp at h⟩ fun t2 k2 => ⟨.str _, H, I.tok k2, ⟨t2, rfl⟩, ?_⟩
        rw [e]
        exact G.here o _ (.str _)
      · exact G.elim
  · exact G.elim
end
end DL

namespace DL
open PySem PySem.Spec PyProof.Rows L2
/-! ### how the programs are reckoned -/
section
variable {ρ : Rho} {st : Sto}
@[simp] theorem mVar_ap {i : Nat} : mVar i ρ st = match ρ[i]? with | some (some v) => .ok v st | _ => .stuck := rfl
@[simp] theorem mC_ap {v : Val} : mC v ρ st = .ok v st := rfl
@[simp] theorem mNilA_ap : mNilA ρ st = .ok [] st := rfl
@[simp] theorem mSeqA_ap {m : ME} {ms : MA} : mSeqA m ms ρ st = (match m ρ st with | .ok v st1 => (match ms ρ st1 with | .ok vs st2 => .ok (v :: vs) st2 | .exc c s => .exc c s | .stuck => .stuck) | .exc c s => .exc c s | .stuck => .stuck) := by unfold mSeqA; (first | rfl | (simp only [Res.bind]; done) | (simp only [Res.bind]; rfl) | (simp only [Res.bind]; (repeat' split) <;> first | (simp_all; done) | (exfalso; simp_all; omega) | (simp_all; omega)))
@[simp] theorem mOp_ap {F : Val → Val → Sto → Res Val} {a b : ME} : mOp F a b ρ st = (match a ρ st with | .ok v st1 => (match b ρ st1 with | .ok w st2 => F v w st2 | .exc c s => .exc c s | .stuck => .stuck) | .exc c s => .exc c s | .stuck => .stuck) := by unfold mOp; (first | rfl | (simp only [Res.bind]; done) | (simp only [Res.bind]; rfl) | (simp only [Res.bind]; (repeat' split) <;> first | (simp_all; done) | (exfalso; simp_all; omega) | (simp_all; omega)))
@[simp] theorem mUn_ap {F : Val → Sto → Res Val} {a : ME} : mUn F a ρ st = (match a ρ st with | .ok v st1 => F v st1 | .exc c s => .exc c s | .stuck => .stuck) := by unfold mUn; (first | rfl | (simp only [Res.bind]; done) | (simp only [Res.bind]; rfl) | (simp only [Res.bind]; (repeat' split) <;> first | (simp_all; done) | (exfalso; simp_all; omega) | (simp_all; omega)))
@[simp] theorem mCall_ap {F : FV} {a : MA} : mCall F a ρ st = (match a ρ st with | .ok v st1 => F v st1 | .exc c s => .exc c s | .stuck => .stuck) := by unfold mCall; (first | rfl | (simp only [Res.bind]; done) | (simp only [Res.bind]; rfl) | (simp only [Res.bind]; (repeat' split) <;> first | (simp_all; done) | (exfalso; simp_all; omega) | (simp_all; omega)))
@[simp] theorem mVal_ap {m : MC} : mVal m ρ st = (match m ρ st with | .ok k st1 => if isLD k = true then .ok (.ofCell k) st1 else .stuck | .exc c s => .exc c s | .stuck => .stuck) := by unfold mVal; (first | rfl | (simp only [Res.bind]; done) | (simp only [Res.bind]; rfl) | (simp only [Res.bind]; (repeat' split) <;> first | (simp_all; done) | (exfalso; simp_all; omega) | (simp_all; omega)))
@[simp] theorem mNew_ap {m : MC} : mNew m ρ st = (match m ρ st with | .ok k st1 => .ok (.ref st1.length) (st1 ++ [k]) | .exc c s => .exc c s | .stuck => .stuck) := by unfold mNew; (first | rfl | (simp only [Res.bind]; done) | (simp only [Res.bind]; rfl) | (simp only [Res.bind]; (repeat' split) <;> first | (simp_all; done) | (exfalso; simp_all; omega) | (simp_all; omega)))
@[simp] theorem mBool_ap {m : ME} : mBool m ρ st = (match m ρ st with | .ok v st1 => (match v with | .bl b => .ok b st1 | _ => .stuck) | .exc c s => .exc c s | .stuck => .stuck) := by unfold mBool; cases m ρ st with | ok v s => (cases v <;> rfl) | exc c s => rfl | stuck => rfl
@[simp] theorem mNot_ap {m : MT} : mNot m ρ st = (match m ρ st with | .ok b st1 => .ok (!b) st1 | .exc c s => .exc c s | .stuck => .stuck) := by unfold mNot; (first | rfl | (simp only [Res.bind]; done) | (simp only [Res.bind]; rfl) | (simp only [Res.bind]; (repeat' split) <;> first | (simp_all; done) | (exfalso; simp_all; omega) | (simp_all; omega)))
@[simp] theorem mAnd_ap {a b : MT} : mAnd a b ρ st = (match a ρ st with | .ok k st1 => if k = true then b ρ st1 else .ok false st1 | .exc c s => .exc c s | .stuck => .stuck) := by unfold mAnd; (first | rfl | (simp only [Res.bind]; done) | (simp only [Res.bind]; rfl) | (simp only [Res.bind]; (repeat' split) <;> first | (simp_all; done) | (exfalso; simp_all; omega) | (simp_all; omega)))
@[simp] theorem mOr_ap {a b : MT} : mOr a b ρ st = (match a ρ st with | .ok k st1 => if k = true then .ok true st1 else b ρ st1 | .exc c s => .exc c s | .stuck => .stuck) := by unfold mOr; (first | rfl | (simp only [Res.bind]; done) | (simp only [Res.bind]; rfl) | (simp only [Res.bind]; (repeat' split) <;> first | (simp_all; done) | (exfalso; simp_all; omega) | (simp_all; omega)))
@[simp] theorem mIf_ap {c : MT} {a b : ME} : mIf c a b ρ st = (match c ρ st with | .ok v st1 => if v = true then a ρ st1 else b ρ st1 | .exc c s => .exc c s | .stuck => .stuck) := by unfold mIf; (first | rfl | (simp only [Res.bind]; done) | (simp only [Res.bind]; rfl) | (simp only [Res.bind]; (repeat' split) <;> first | (simp_all; done) | (exfalso; simp_all; omega) | (simp_all; omega)))
@[simp] theorem mTup_ap {ms : MA} : mTup ms ρ st = (match ms ρ st with | .ok vs st1 => if vs.length ≤ sizeLine then .ok (.tup vs) st1 else .stuck | .exc c s => .exc c s | .stuck => .stuck) := by unfold mTup; (first | rfl | (simp only [Res.bind]; done) | (simp only [Res.bind]; rfl) | (simp only [Res.bind]; (repeat' split) <;> first | (simp_all; done) | (exfalso; simp_all; omega) | (simp_all; omega)))
@[simp] theorem mLst_ap {ms : MA} : mLst ms ρ st = (match ms ρ st with | .ok vs st1 => if vs.length ≤ sizeLine then .ok (.lst vs) st1 else .stuck | .exc c s => .exc c s | .stuck => .stuck) := by unfold mLst; (first | rfl | (simp only [Res.bind]; done) | (simp only [Res.bind]; rfl) | (simp only [Res.bind]; (repeat' split) <;> first | (simp_all; done) | (exfalso; simp_all; omega) | (simp_all; omega)))
@[simp] theorem mNext_ap : mNext ρ st = .next ρ st := rfl
@[simp] theorem mSeq_ap {a b : MS} : mSeq a b ρ st = match a ρ st with | .next ρ1 st1 => b ρ1 st1 | r => r := rfl
@[simp] theorem mSet_ap {i : Nat} {m : ME} : mSet i m ρ st = (match m ρ st with | .ok v st1 => .next (ρ.set i (some v)) st1 | .exc c s => .exc c ρ s | .stuck => .stuck) := by unfold mSet; (first | rfl | (simp only [Res.bind]; done) | (simp only [Res.bind]; rfl) | (simp only [Res.bind]; (repeat' split) <;> first | (simp_all; done) | (exfalso; simp_all; omega) | (simp_all; omega)))
@[simp] theorem mDrop_ap {m : ME} : mDrop m ρ st = (match m ρ st with | .ok _ st1 => .next ρ st1 | .exc c s => .exc c ρ s | .stuck => .stuck) := by unfold mDrop; (first | rfl | (simp only [Res.bind]; done) | (simp only [Res.bind]; rfl) | (simp only [Res.bind]; (repeat' split) <;> first | (simp_all; done) | (exfalso; simp_all; omega) | (simp_all; omega)))
@[simp] theorem mRet_ap {m : ME} : mRet m ρ st = (match m ρ st with | .ok v st1 => .ret v st1 | .exc c s => .exc c ρ s | .stuck => .stuck) := by unfold mRet; (first | rfl | (simp only [Res.bind]; done) | (simp only [Res.bind]; rfl) | (simp only [Res.bind]; (repeat' split) <;> first | (simp_all; done) | (exfalso; simp_all; omega) | (simp_all; omega)))
@[simp] theorem mIfS_ap {c : MT} {a b : MS} : mIfS c a b ρ st = match c ρ st with | .ok v st1 => if v = true then a ρ st1 else b ρ st1 | .exc c st1 => .exc c ρ st1 | .stuck => .stuck := by unfold mIfS; (first | rfl | (simp only [Res.bind]; done) | (simp only [Res.bind]; rfl) | (simp only [Res.bind]; (repeat' split) <;> first | (simp_all; done) | (exfalso; simp_all; omega) | (simp_all; omega)))
@[simp] theorem mRaise_ap {c : Str} : mRaise c ρ st = .exc c ρ st := rfl
@[simp] theorem mMeth_ap {chk : Val → Sto → Bool} {F : FM} {mo : ME} {ms : MA} : mMeth chk F mo ms ρ st = (match mo ρ st with | .ok v st1 => if chk v st1 = true then (match ms ρ st1 with | .ok vs st2 => F v vs st2 | .exc c s => .exc c s | .stuck => .stuck) else .stuck | .exc c s => .exc c s | .stuck => .stuck) := by unfold mMeth; (first | rfl | (simp only [Res.bind]; done) | (simp only [Res.bind]; rfl) | (simp only [Res.bind]; (repeat' split) <;> first | (simp_all; done) | (exfalso; simp_all; omega) | (simp_all; omega)))
@[simp] theorem mIsi_ap {T : Ty} {m : ME} : mIsi T m ρ st = (match m ρ st with | .ok v st1 => (match tyOf v st1 with | some n => .ok (.bl (isTy n T)) st1 | none => .stuck) | .exc c s => .exc c s | .stuck => .stuck) := by unfold mIsi; cases m ρ st with | ok v s => (simp only [Res.bind]; try (cases tyOf v s <;> rfl)) | exc c s => rfl | stuck => rfl
@[simp] theorem mComp_ap {mi : MI} {t : Tg} {cond : MT} {elt : ME} {ws : List Nat} : mComp mi t cond elt ws ρ st = (match mi ρ st with | .ok w st1 => (match compLoop t cond elt w.guard (wipeR ρ ws) w.items [] st1 with | .ok vs st2 => .ok (.lst vs) st2 | .exc c s => .exc c s | .stuck => .stuck) | .exc c s => .exc c s | .stuck => .stuck) := by unfold mComp; (first | rfl | (simp only [Res.bind]; done) | (simp only [Res.bind]; rfl) | (simp only [Res.bind]; (repeat' split) <;> first | (simp_all; done) | (exfalso; simp_all; omega) | (simp_all; omega)))
@[simp] theorem mItT_ap {m : ME} : mItT m ρ st = (match m ρ st with | .ok v st1 => itemsT v st1 | .exc c s => .exc c s | .stuck => .stuck) := by unfold mItT; (first | rfl | (simp only [Res.bind]; done) | (simp only [Res.bind]; rfl) | (simp only [Res.bind]; (repeat' split) <;> first | (simp_all; done) | (exfalso; simp_all; omega) | (simp_all; omega)))
@[simp] theorem mItL_ap {m : ME} : mItL m ρ st = (match m ρ st with | .ok v st1 => itemsL v st1 | .exc c s => .exc c s | .stuck => .stuck) := by unfold mItL; (first | rfl | (simp only [Res.bind]; done) | (simp only [Res.bind]; rfl) | (simp only [Res.bind]; (repeat' split) <;> first | (simp_all; done) | (exfalso; simp_all; omega) | (simp_all; omega)))
@[simp] theorem mRng1_ap {m : ME} : mRng1 m ρ st = (match m ρ st with | .ok v st1 => (match v with | .int n => @ite _ (-1000000 ≤ n ∧ n ≤ 1000000) (Classical.propDecidable _) (.ok ⟨rng 0 n.toNat, none⟩ st1) .stuck | _ => .stuck) | .exc c s => .exc c s | .stuck => .stuck) := by unfold mRng1; cases m ρ st with | ok v s => (cases v <;> rfl) | exc c s => rfl | stuck => rfl
@[simp] theorem mFor_ap {mi : MI} {t : Tg} {body : MS} : mFor mi t body ρ st = match mi ρ st with | .ok w st1 => loop t body w.guard w.items ρ st1 | .exc c st1 => .exc c ρ st1 | .stuck => .stuck := by unfold mFor; (first | rfl | (simp only [Res.bind]; done) | (simp only [Res.bind]; rfl) | (simp only [Res.bind]; (repeat' split) <;> first | (simp_all; done) | (exfalso; simp_all; omega) | (simp_all; omega)))
@[simp] theorem mTrue_ap : mTrue ρ st = .ok true st := rfl
@[simp] theorem mChain_ap {F G : Val → Val → Sto → Res Val} {a b c : ME} : mChain F G a b c ρ st = (match a ρ st with | .ok v st1 => (match b ρ st1 with | .ok w st2 => (match F v w st2 with | .ok r st3 => (match r with | .bl true => (match c ρ st3 with | .ok u st4 => G w u st4 | .exc c s => .exc c s | .stuck => .stuck) | .bl false => .ok (.bl false) st3 | _ => .stuck) | .exc c s => .exc c s | .stuck => .stuck) | .exc c s => .exc c s | .stuck => .stuck) | .exc c s => .exc c s | .stuck => .stuck) := by unfold mChain; cases a ρ st with | ok v s => (simp only [Res.bind]; cases b ρ s with | ok w s2 => (dsimp only; cases F v w s2 with | ok r s3 => (cases r with | bl k => (cases k with | true => (dsimp only; cases c ρ s3 <;> rfl) | false => rfl) | _ => rfl) | exc c s => rfl | stuck => rfl) | exc c s => rfl | stuck => rfl) | exc c s => rfl | stuck => rfl
@[simp] theorem mAndV_ap {a b : ME} : mAndV a b ρ st = (match a ρ st with | .ok v st1 => (match v with | .bl true => b ρ st1 | .bl false => .ok (.bl false) st1 | _ => .stuck) | .exc c s => .exc c s | .stuck => .stuck) := by unfold mAndV; cases a ρ st with | ok v s => (cases v with | bl k => (cases k <;> rfl) | _ => rfl) | exc c s => rfl | stuck => rfl
@[simp] theorem mOrV_ap {a b : ME} : mOrV a b ρ st = (match a ρ st with | .ok v st1 => (match v with | .bl true => .ok (.bl true) st1 | .bl false => b ρ st1 | _ => .stuck) | .exc c s => .exc c s | .stuck => .stuck) := by unfold mOrV; cases a ρ st with | ok v s => (cases v with | bl k => (cases k <;> rfl) | _ => rfl) | exc c s => rfl | stuck => rfl
@[simp] theorem mNotV_ap {a : ME} : mNotV a ρ st = (match a ρ st with | .ok v st1 => (match v with | .bl k => .ok (.bl !k) st1 | _ => .stuck) | .exc c s => .exc c s | .stuck => .stuck) := by unfold mNotV; cases a ρ st with | ok v s => (cases v <;> rfl) | exc c s => rfl | stuck => rfl
@[simp] theorem mTry_ap {i : Nat} {idx : Str → Option Nat} {body : MS} : mTry i idx body ρ st = match body ρ st with | .exc c ρ' st' => if i < ρ'.length then (match idx c with | some j => .ret (.tup [.str "refused", .int (j : Nat)]) st' | none => .stuck) else .stuck | r => r := rfl
@[simp] theorem mCallV_ap {tbl : List (Str × FV)} {mf : ME} {ms : MA} : mCallV tbl mf ms ρ st = (match mf ρ st with | .ok v st1 => (match v with | .fn x => (match tbl.lookup x with | some F => (match ms ρ st1 with | .ok vs st2 => F vs st2 | .exc c s => .exc c s | .stuck => .stuck) | none => .stuck) | _ => .stuck) | .exc c s => .exc c s | .stuck => .stuck) := by unfold mCallV; cases mf ρ st with | ok v s => (cases v with | fn x => (simp only [Res.bind]; cases tbl.lookup x with | none => rfl | some F => (dsimp only; cases ms ρ s <;> rfl)) | _ => rfl) | exc c s => rfl | stuck => rfl
@[simp] theorem lift1_ap {G : Val → Sto → Option Val} {v : Val} : lift1 G [v] st = match G v st with | some r => .ok r st | none => .stuck := rfl
@[simp] theorem runB_ap {n N : Nat} {body : MS} {args : List Val} (h : args.length = n) : runB n N body args st = match body (args.map some ++ List.replicate (N - n) none) st with
  | .ret v st' => .ok v st'
  | .next _ st' => .ok .non st'
  | .exc c _ st' => .exc c st'
  | _ => .stuck := if_pos h
@[simp] theorem mTryN_ap {idx : Str → Option Nat} {body : MS} : mTryN idx body ρ st = match body ρ st with | .exc c _ st' => (match idx c with | some _ => .ret .non st' | none => .stuck) | r => r := rfl
theorem mListC_ap {m : ME} {v : Val} {st1 : Sto} {us : List Val} (h : m ρ st = .ok v st1) (hs : seqOf v st1 = some us) : mListC (mSeqA m mNilA) ρ st = .ok (.lst us) st1 := by
  unfold mListC
  simp only [mSeqA_ap, h, mNilA_ap, Res.bind_ok, hs]
theorem mRepC_ap {a b : ME} {vs : List Val} {k : Int} {st1 st2 : Sto} (h1 : a ρ st = .ok (.lst vs) st1) (h2 : b ρ st1 = .ok (.int k) st2) (hk : 0 ≤ k ∧ k ≤ 1000) (hl : vs.length ≤ 1000) : mRepC a b ρ st = .ok (.lst (List.replicate k.toNat vs).flatten) st2 := by
  unfold mRepC
  simp only [h1, h2, Res.bind_ok]
  refine if_pos ⟨by omega, by omega, ?_⟩
  have hz : sizeLine = 2 ^ 24 := rfl
  rw [hz]
  exact Nat.le_trans (Nat.mul_le_mul hl (show k.toNat ≤ 1000 by omega)) (by decide)
@[simp] theorem mTupN_ap {ms : MA} : mTupN ms ρ st = (match ms ρ st with | .ok vs st1 => if vs.length ≤ sizeLine then .ok (.tpl vs) st1 else .stuck | .exc c s => .exc c s | .stuck => .stuck) := by unfold mTupN; cases ms ρ st <;> rfl
@[simp] theorem min2F_ap {i j : Int} : min2F [.int i, .int j] st = .ok (.int (min i j)) st := by
  unfold min2F
  dsimp only
  congr 2
  omega
@[simp] theorem max2F_ap {i j : Int} : max2F [.int i, .int j] st = .ok (.int (max i j)) st := by
  unfold max2F
  dsimp only
  congr 2
  omega
end
end DL

namespace DL
open PySem PySem.Spec PyProof.Rows L2
noncomputable instance : DecidableEq Val := fun a b => Classical.propDecidable (a = b)
/-! ### values without truth values: == is = -/
mutual
def Val.nb : Val → Bool
  | .non => true
  | .int _ => true
  | .str x => PyData.strOk x
  | .tup vs => Val.nbs vs
  | .lst vs => Val.nbs vs
  | _ => false
def Val.nbs : List Val → Bool
  | [] => true
  | v :: vs => Val.nb v && Val.nbs vs
end
mutual
def Val.dep : Val → Nat
  | .tup vs => Val.deps vs + 1
  | .lst vs => Val.deps vs + 1
  | _ => 0
def Val.deps : List Val → Nat
  | [] => 0
  | v :: vs => max (Val.dep v) (Val.deps vs)
end
mutual
theorem nb_data : ∀ v : Val, v.nb = true → ∃ d, v.data = some d ∧ d.canLay0 = true ∧ d.depth = v.dep
  | .non, _ => ⟨_, rfl, rfl, rfl⟩
  | .int _, _ => ⟨_, rfl, rfl, rfl⟩
  | .str x, h => ⟨_, rfl, h, rfl⟩
  | .tup vs, h => by
    obtain ⟨ds, h1, h2, h3⟩ := nbs_data vs h
    refine ⟨.tuple ds, by simp [Val.data, h1], h2, ?_⟩
    simp [PyData.depth, Val.dep, h3]
  | .lst vs, h => by
    obtain ⟨ds, h1, h2, h3⟩ := nbs_data vs h
    refine ⟨.list ds, by simp [Val.data, h1], h2, ?_⟩
    simp [PyData.depth, Val.dep, h3]
  | .bl _, h => by cases h
  | .rol _, h => by cases h
  | .dic _, h => by cases h
  | .dit _, h => by cases h
  | .ref _, h => by cases h
  | .fn _, h => by cases h
theorem nbs_data : ∀ vs : List Val, Val.nbs vs = true → ∃ ds, Val.datas vs = some ds ∧ PyData.canLayAll0 ds = true ∧ PyData.depthAll ds = Val.deps vs
  | [], _ => ⟨[], rfl, rfl, rfl⟩
  | v :: vs, h => by
    simp only [Val.nbs, Bool.and_eq_true] at h
    obtain ⟨d, h1, h2, h3⟩ := nb_data v h.1
    obtain ⟨ds, h4, h5, h6⟩ := nbs_data vs h.2
    refine ⟨d :: ds, by simp [Val.datas, h1, h4], by simp [PyData.canLayAll0, h2, h5], ?_⟩
    simp [PyData.depthAll, Val.deps, h3, h6]
end
mutual
theorem nb_eqv : ∀ (v w : Val) (d e : PyData), v.nb = true → w.nb = true → v.data = some d → w.data = some e → (PyData.eqv d e = true ↔ v = w)
  | .tup vs, w, d, e, hv, hw, h1, h2 => by
    obtain ⟨ds, h3, _, _⟩ := nbs_data vs hv
    simp only [Val.data, h3, Option.map] at h1
    cases h1
    cases w with
    | tup ws =>
      obtain ⟨es, h5, _, _⟩ := nbs_data ws hw
      simp only [Val.data, h5, Option.map] at h2
      cases h2
      simp only [PyData.eqv, nbs_eqv vs ws ds es hv hw h3 h5, Val.tup.injEq]
    | lst ws =>
      obtain ⟨es, h5, _, _⟩ := nbs_data ws hw
      simp only [Val.data, h5, Option.map] at h2
      cases h2
      simp [PyData.eqv]
    | _ => simp_all [Val.data, Val.nb]; try (subst h2; simp [PyData.eqv])
  | .lst vs, w, d, e, hv, hw, h1, h2 => by
    obtain ⟨ds, h3, _, _⟩ := nbs_data vs hv
    simp only [Val.data, h3, Option.map] at h1
    cases h1
    cases w with
    | tup ws =>
      obtain ⟨es, h5, _, _⟩ := nbs_data ws hw
      simp only [Val.data, h5, Option.map] at h2
      cases h2
      simp [PyData.eqv]
    | lst ws =>
      obtain ⟨es, h5, _, _⟩ := nbs_data ws hw
      simp only [Val.data, h5, Option.map] at h2
      cases h2
      simp only [PyData.eqv, nbs_eqv vs ws ds es hv hw h3 h5, Val.lst.injEq]
    | _ => simp_all [Val.data, Val.nb]; try (subst h2; simp [PyData.eqv])
  | .non, w, d, e, hv, hw, h1, h2 => by
    cases h1
    cases w with
    | tup ws => obtain ⟨es, h5, _, _⟩ := nbs_data ws hw; simp only [Val.data, h5, Option.map] at h2; cases h2; simp [PyData.eqv]
    | lst ws => obtain ⟨es, h5, _, _⟩ := nbs_data ws hw; simp only [Val.data, h5, Option.map] at h2; cases h2; simp [PyData.eqv]
    | _ => first | (cases h2; simp [PyData.eqv]; done) | (cases hw)
  | .int i, w, d, e, hv, hw, h1, h2 => by
    cases h1
    cases w with
    | tup ws => obtain ⟨es, h5, _, _⟩ := nbs_data ws hw; simp only [Val.data, h5, Option.map] at h2; cases h2; simp [PyData.eqv]
    | lst ws => obtain ⟨es, h5, _, _⟩ := nbs_data ws hw; simp only [Val.data, h5, Option.map] at h2; cases h2; simp [PyData.eqv]
    | _ => first | (cases h2; simp [PyData.eqv]; done) | (cases hw)
  | .str i, w, d, e, hv, hw, h1, h2 => by
    cases h1
    cases w with
    | tup ws => obtain ⟨es, h5, _, _⟩ := nbs_data ws hw; simp only [Val.data, h5, Option.map] at h2; cases h2; simp [PyData.eqv]
    | lst ws => obtain ⟨es, h5, _, _⟩ := nbs_data ws hw; simp only [Val.data, h5, Option.map] at h2; cases h2; simp [PyData.eqv]
    | _ => first | (cases h2; simp [PyData.eqv]; done) | (cases hw)
  | .bl _, _, _, _, h, _, _, _ => by cases h
  | .rol _, _, _, _, h, _, _, _ => by cases h
  | .dic _, _, _, _, h, _, _, _ => by cases h
  | .dit _, _, _, _, h, _, _, _ => by cases h
  | .ref _, _, _, _, h, _, _, _ => by cases h
  | .fn _, _, _, _, h, _, _, _ => by cases h
theorem nbs_eqv : ∀ (vs ws : List Val) (ds es : List PyData), Val.nbs vs = true → Val.nbs ws = true → Val.datas vs = some ds → Val.datas ws = some es → (PyData.eqvAll ds es = true ↔ vs = ws)
  | [], [], _, _, _, _, h1, h2 => by cases h1; cases h2; simp [PyData.eqvAll]
  | [], w :: ws, _, _, _, hw, h1, h2 => by
    cases h1
    obtain ⟨es, h5, _, _⟩ := nbs_data (w :: ws) hw
    simp only [Val.nbs, Bool.and_eq_true] at hw
    obtain ⟨d, h6, _, _⟩ := nb_data w hw.1
    obtain ⟨ds, h7, _, _⟩ := nbs_data ws hw.2
    simp only [Val.datas, h6, h7] at h2
    cases h2
    simp [PyData.eqvAll]
  | v :: vs, [], _, _, hw, _, h1, h2 => by
    cases h2
    simp only [Val.nbs, Bool.and_eq_true] at hw
    obtain ⟨d, h6, _, _⟩ := nb_data v hw.1
    obtain ⟨ds, h7, _, _⟩ := nbs_data vs hw.2
    simp only [Val.datas, h6, h7] at h1
    cases h1
    simp [PyData.eqvAll]
  | v :: vs, w :: ws, _, _, hv, hw, h1, h2 => by
    simp only [Val.nbs, Bool.and_eq_true] at hv hw
    obtain ⟨d, h6, _, _⟩ := nb_data v hv.1
    obtain ⟨ds, h7, _, _⟩ := nbs_data vs hv.2
    obtain ⟨e, h8, _, _⟩ := nb_data w hw.1
    obtain ⟨es, h9, _, _⟩ := nbs_data ws hw.2
    simp only [Val.datas, h6, h7] at h1
    simp only [Val.datas, h8, h9] at h2
    cases h1
    cases h2
    simp only [PyData.eqvAll, Bool.and_eq_true, nb_eqv v w _ _ hv.1 hw.1 h6 h8, nbs_eqv vs ws _ _ hv.2 hw.2 h7 h9, List.cons.injEq]
end
theorem top_nb {v : Val} {st : Sto} (h : v.nb = true) : topData v st = v.data := by
  cases v <;> first | rfl | (cases h)
theorem eqF_nb {v w : Val} {st : Sto} (hv : v.nb = true) (hw : w.nb = true) (dv : v.dep ≤ 64) (dw : w.dep ≤ 64) : eqF v w st = .ok (.bl (decide (v = w))) st := by
  obtain ⟨d, h1, h2, h3⟩ := nb_data v hv
  obtain ⟨e, h4, h5, h6⟩ := nb_data w hw
  unfold eqF
  rw [top_nb hv, top_nb hw, h1, h4]
  dsimp only
  rw [if_pos ⟨by simp [SeqAt.shaped, h2, h3, dv], by simp [SeqAt.shaped, h5, h6, dw]⟩]
  have := nb_eqv v w d e hv hw h1 h4
  congr 2
  rw [Bool.eq_iff_iff, this, decide_eq_true_iff]
theorem neF_nb {v w : Val} {st : Sto} (hv : v.nb = true) (hw : w.nb = true) (dv : v.dep ≤ 64) (dw : w.dep ≤ 64) : neF v w st = .ok (.bl (!decide (v = w))) st := by
  obtain ⟨d, h1, h2, h3⟩ := nb_data v hv
  obtain ⟨e, h4, h5, h6⟩ := nb_data w hw
  unfold neF
  rw [top_nb hv, top_nb hw, h1, h4]
  dsimp only
  rw [if_pos ⟨by simp [SeqAt.shaped, h2, h3, dv], by simp [SeqAt.shaped, h5, h6, dw]⟩]
  have := nb_eqv v w d e hv hw h1 h4
  congr 3
  rw [Bool.eq_iff_iff, this, decide_eq_true_iff]
@[simp] theorem nbs_ints : ∀ ns : List Int, Val.nbs (ns.map Val.int) = true
  | [] => rfl
  | n :: ns => by simp [Val.nbs, Val.nb, nbs_ints ns]
@[simp] theorem deps_ints : ∀ ns : List Int, Val.deps (ns.map Val.int) = 0
  | [] => rfl
  | n :: ns => by simp [Val.deps, Val.dep, deps_ints ns]
theorem map_int_inj {as bs : List Int} : as.map Val.int = bs.map Val.int ↔ as = bs := ⟨fun h => (List.map_inj_right fun _ _ e => by cases e; rfl).mp h, fun h => by rw [h]⟩
@[simp] theorem datas_ints : ∀ ns : List Int, Val.datas (ns.map Val.int) = some (ns.map PyData.int)
  | [] => rfl
  | n :: ns => by simp [Val.datas, Val.data, datas_ints ns]
/-! ### sorted numbers -/
def sortI (ns : List Int) : List Int := ns.mergeSort fun a b => decide (a ≤ b)
theorem sortOk_ints (ns : List Int) : SortOk (ns.map Val.int) := ⟨_, datas_ints ns, PySem.W.AllAlike.of fun _ _ => by simp [PySem.W.alike], PySem.W.Sortable.others fun _ => ⟨by simp, by simp⟩, fun d hd => by
  obtain ⟨b, _, rfl⟩ := List.mem_map.mp hd
  simp [PyData.depth]⟩
theorem sortV_ints (ns : List Int) : sortV (ns.map Val.int) = (sortI ns).map Val.int := by
  unfold sortV sortI
  symm
  apply List.map_mergeSort
  intro a _ b _
  have := congrFun (congrFun (PySem.W.dataLe_int (fun b : Int => b)) a) b
  rw [← this]
  rfl
theorem sortI_perm (ns : List Int) : (sortI ns).Perm ns := List.mergeSort_perm _ _
theorem sortI_sorted (ns : List Int) : (sortI ns).Pairwise (· ≤ ·) := by
  have := List.pairwise_mergeSort (le := fun a b : Int => decide (a ≤ b)) (by intro a b c; simp; omega) (by intro a b; simp; omega) ns
  unfold sortI
  simpa using this
theorem sortI_of {ns : List Int} (h : ns.Pairwise (· ≤ ·)) : sortI ns = ns := List.mergeSort_of_pairwise (by simpa using h)
theorem sortI_eq {ns : List Int} : sortI ns = ns ↔ ns.Pairwise (· ≤ ·) := ⟨fun h => by rw [← h]; exact sortI_sorted ns, sortI_of⟩
@[simp] theorem sortI_len (ns : List Int) : (sortI ns).length = ns.length := (sortI_perm ns).length_eq
@[simp] theorem mem_sortI {ns : List Int} {x : Int} : x ∈ sortI ns ↔ x ∈ ns := (sortI_perm ns).mem_iff
/-! ### drawing -/
def cellAt (ns : List Int) (k : Nat) : Int := match ns[k]? with
  | some z => z
  | none => if ns = [] then 0 else (ns[k % ns.length]?).getD 0 * 31 + k
def mixed (ns : List Int) (k : Nat) (many : Int) : Int := (((cellAt ns k + 7919 * k + 1) * 48271 % 2147483647) * ((cellAt ns k + 7919 * k + 1) * 48271 % 2147483647) + 7 * ((cellAt ns k + 7919 * k + 1) * 48271 % 2147483647) + k) % 2147483629 % many
def F__law_cell_at : FV := fun args st => match args with
  | [.rol vs, .int k] => match intsOf vs with
    | some ns => if 0 ≤ k then .ok (.int (cellAt ns k.toNat)) st else .stuck
    | none => .stuck
  | _ => .stuck
def F__law_mixed : FV := fun args st => match args with
  | [.rol vs, .int k, .int m] => match intsOf vs with
    | some ns => if 0 ≤ k ∧ 0 < m then .ok (.int (mixed ns k.toNat m)) st else .stuck
    | none => .stuck
  | _ => .stuck
def F__law_draw : FV := fun args st => match args with
  | [.rol vs, .ref l, .int m] => match intsOf vs, lstAt st l with
    | some ns, some ws => if 0 < m ∧ ws.length < 1000000 then .ok (.int (mixed ns (ws.length + 1) m)) (st.set l (.lst (ws ++ [.int 0]))) else .stuck
    | _, _ => .stuck
  | _ => .stuck
def F__law_pick : FV := fun args st => match args with
  | [.rol vs, .ref l, .lst us] => match F__law_draw [.rol vs, .ref l, .int us.length] st with
    | .ok (.int i) st1 => match us[i.toNat]? with
      | some u => .ok u st1
      | none => .stuck
    | _ => .stuck
  | [.rol vs, .ref l, .tup us] => match F__law_draw [.rol vs, .ref l, .int us.length] st with
    | .ok (.int i) st1 => match us[i.toNat]? with
      | some u => .ok u st1
      | none => .stuck
    | _ => .stuck
  | _ => .stuck
/-- l is a town in which n more can be drawn -/
def Town (st : Sto) (l n : Nat) : Prop := ∃ ws, st[l]? = some (.lst ws) ∧ ws.length + n ≤ 1000000
/-- at most n were drawn -/
def Drawn (l n : Nat) (st st1 : Sto) : Prop := ∃ ws k, k ≤ n ∧ st[l]? = some (.lst ws) ∧ st1 = st.set l (.lst (ws ++ List.replicate k (.int 0)))
theorem Town.mono {st : Sto} {l m n : Nat} (h : Town st l n) (hm : m ≤ n) : Town st l m := by
  obtain ⟨ws, h1, h2⟩ := h
  exact ⟨ws, h1, by omega⟩
theorem Drawn.refl {st : Sto} {l n m : Nat} (h : Town st l m) : Drawn l n st st := by
  obtain ⟨ws, h1, _⟩ := h
  refine ⟨ws, 0, by omega, h1, ?_⟩
  simp only [List.replicate_zero, List.append_nil]
  obtain ⟨h2, h3⟩ := List.getElem?_eq_some_iff.mp h1
  rw [← h3, List.set_getElem_self]
theorem Drawn.mono {st st1 : Sto} {l n m : Nat} (h : Drawn l n st st1) (hm : n ≤ m) : Drawn l m st st1 := by
  obtain ⟨ws, k, h1, h2, h3⟩ := h
  exact ⟨ws, k, by omega, h2, h3⟩
theorem Drawn.town {st st1 : Sto} {l n m k : Nat} (h : Drawn l n st st1) (t : Town st l k) (hm : n + m ≤ k) : Town st1 l m := by
  obtain ⟨ws, k, h1, h2, rfl⟩ := h
  obtain ⟨ws', h4, h5⟩ := t
  rw [h2] at h4
  cases h4
  have hl := (List.getElem?_eq_some_iff.mp h2).1
  exact ⟨_, List.getElem?_set_self hl, by rw [List.length_append, List.length_replicate]; omega⟩
theorem Drawn.trans {st st1 st2 : Sto} {l n m : Nat} (h : Drawn l n st st1) (h' : Drawn l m st1 st2) : Drawn l (n + m) st st2 := by
  obtain ⟨ws, k, h1, h2, rfl⟩ := h
  obtain ⟨ws', k', h4, h5, rfl⟩ := h'
  have hl := (List.getElem?_eq_some_iff.mp h2).1
  rw [List.getElem?_set_self hl] at h5
  cases h5
  exact ⟨ws, k + k', by omega, h2, by rw [List.set_set, List.append_assoc, List.replicate_append_replicate]⟩
theorem Drawn.len {st st1 : Sto} {l n : Nat} (h : Drawn l n st st1) : st1.length = st.length := by
  obtain ⟨ws, k, h1, h2, rfl⟩ := h
  exact List.length_set
theorem Drawn.other {st st1 : Sto} {l n j : Nat} (h : Drawn l n st st1) (hj : j ≠ l) : st1[j]? = st[j]? := by
  obtain ⟨ws, k, h1, h2, rfl⟩ := h
  rw [List.getElem?_set_ne (Ne.symm hj)]
theorem cl_ints : ∀ ns : List Int, ClL n (ns.map Val.int)
  | [] => .nil
  | _ :: ns => .cons (.int _) (cl_ints ns)
theorem cl_app : ∀ {vs ws : List Val}, ClL n vs → ClL n ws → ClL n (vs ++ ws)
  | _, _, .nil, h => h
  | _, _, .cons a b, h => .cons a (cl_app b h)
theorem cl_rep {v : Val} (h : ClV n v) : ∀ k, ClL n (List.replicate k v)
  | 0 => .nil
  | k + 1 => .cons h (cl_rep h k)
theorem cl_get : ∀ {vs : List Val} {i : Nat} {v : Val}, ClL n vs → vs[i]? = some v → ClV n v
  | _, 0, _, .cons a b, h => by cases h; exact a
  | _, i + 1, _, .cons a b, h => cl_get b h
theorem Drawn.cl {st st1 : Sto} {l n : Nat} (h : Drawn l n st st1) (k : ClS st) (c : Cell) (hc : c ∈ st1) : c ∈ st ∨ ClC st1.length c := by
  have e := h.len
  obtain ⟨ws, k', h1, h2, rfl⟩ := h
  rcases List.mem_or_eq_of_mem_set hc with hc | rfl
  · exact .inl hc
  · have := k _ (List.mem_of_getElem? h2)
    right
    rw [e]
    exact cl_app this (cl_rep (.int 0) _)
theorem mixed_lt (ns : List Int) (k : Nat) {m : Int} (h : 0 < m) : 0 ≤ mixed ns k m ∧ mixed ns k m < m := by
  unfold mixed
  exact ⟨Int.emod_nonneg _ (by omega), Int.emod_lt_of_pos _ h⟩
theorem draw_ok {ns : List Int} {st : Sto} {l n : Nat} {m : Int} (t : Town st l (n + 1)) (hm : 0 < m) : ∃ i st1, 0 ≤ i ∧ i < m ∧ F__law_draw [.rol (ns.map Val.int), .ref l, .int m] st = .ok (.int i) st1 ∧ Drawn l 1 st st1 ∧ Town st1 l n := by
  have t0 := t
  obtain ⟨ws, h1, h2⟩ := t
  have hd : Drawn l 1 st (st.set l (.lst (ws ++ [.int 0]))) := ⟨ws, 1, Nat.le_refl _, h1, rfl⟩
  refine ⟨_, _, (mixed_lt ns (ws.length + 1) hm).1, (mixed_lt ns (ws.length + 1) hm).2, ?_, hd, hd.town t0 (by omega)⟩
  unfold F__law_draw
  simp only [intsOf_map, lstAt, h1]
  rw [if_pos ⟨hm, by omega⟩]
theorem pick_ok {ns : List Int} {st : Sto} {l n : Nat} {us : List Val} (t : Town st l (n + 1)) (hm : us ≠ []) : ∃ (i : Nat) (u : Val) (st1 : Sto), us[i]? = some u ∧ F__law_pick [.rol (ns.map Val.int), .ref l, .lst us] st = .ok u st1 ∧ Drawn l 1 st st1 ∧ Town st1 l n := by
  have hp : 0 < us.length := List.length_pos_iff.mpr hm
  obtain ⟨i, st1, h1, h2, h3, h4, h5⟩ := draw_ok (ns := ns) (m := us.length) t (by omega)
  have hi : i.toNat < us.length := by omega
  refine ⟨i.toNat, us[i.toNat], st1, List.getElem?_eq_getElem hi, ?_, h4, h5⟩
  unfold F__law_pick
  simp only [h3]
  rw [List.getElem?_eq_getElem hi]
theorem pick_okT {ns : List Int} {st : Sto} {l n : Nat} {us : List Val} (t : Town st l (n + 1)) (hm : us ≠ []) : ∃ (i : Nat) (u : Val) (st1 : Sto), us[i]? = some u ∧ F__law_pick [.rol (ns.map Val.int), .ref l, .tup us] st = .ok u st1 ∧ Drawn l 1 st st1 ∧ Town st1 l n := by
  have hp : 0 < us.length := List.length_pos_iff.mpr hm
  obtain ⟨i, st1, h1, h2, h3, h4, h5⟩ := draw_ok (ns := ns) (m := us.length) t (by omega)
  have hi : i.toNat < us.length := by omega
  refine ⟨i.toNat, us[i.toNat], st1, List.getElem?_eq_getElem hi, ?_, h4, h5⟩
  unfold F__law_pick
  simp only [h3]
  rw [List.getElem?_eq_getElem hi]
/-! ### what a def refines -/
inductive Out where
  | val (v : Val) | err (c : Str) | no
def Out.res (o : Out) (st : Sto) : Res Val := match o with
  | .val v => .ok v st
  | .err c => .exc c st
  | .no => .stuck
def pureF (P : List Val → Out) : FV := fun args st => (P args).res st
@[simp] theorem Out.res_val {v : Val} {st : Sto} : (Out.val v).res st = .ok v st := rfl
@[simp] theorem Out.res_err {c : Str} {st : Sto} : (Out.err c).res st = .exc c st := rfl
mutual
theorem nb_cl {n : Nat} : ∀ v : Val, v.nb = true → ClV n v
  | .non, _ => .non
  | .int _, _ => .int _
  | .str _, _ => .str _
  | .tup vs, h => .tup (nbs_cl vs h)
  | .lst vs, h => .lst (nbs_cl vs h)
  | .bl _, h => by cases h
  | .rol _, h => by cases h
  | .dic _, h => by cases h
  | .dit _, h => by cases h
  | .ref _, h => by cases h
  | .fn _, h => by cases h
theorem nbs_cl {n : Nat} : ∀ vs : List Val, Val.nbs vs = true → ClL n vs
  | [], _ => .nil
  | v :: vs, h => by
    simp only [Val.nbs, Bool.and_eq_true] at h
    exact .cons (nb_cl v h.1) (nbs_cl vs h.2)
end
theorem trim_same {st : Sto} {v : Val} {g : List Cell} (c : ClV st.length v) : Trim st v (st ++ g) v st := ⟨Nat.le_refl _, ⟨g, rfl⟩, fun c h => .inl h, .inl ⟨rfl, c⟩⟩
/-- a def that changes nothing -/
theorem ref_pure {P : List Val → Out} {B : FV} (h : ∀ args st, P args = .no ∨ (∃ v g, P args = .val v ∧ (∀ n, ClV n v) ∧ B args st = .ok v (st ++ g)) ∨ ∃ c g, P args = .err c ∧ B args st = .exc c (st ++ g)) : Refines (pureF P) B := fun args st k1 k2 => by
  rcases h args st with e | ⟨v, g, e, c, b⟩ | ⟨c, g, e, b⟩
  · simp only [pureF, e, Out.res]
  · simp only [pureF, e, Out.res]
    exact ⟨v, _, b, trim_same (c _)⟩
  · simp only [pureF, e, Out.res]
    exact ⟨_, b, trim_same .non⟩
open Classical in
/-- a def that tells what its program tells, where it is asked as it should be -/
noncomputable def guardF (ok : List Val → Sto → Prop) (B : FV) : FV := fun args st => if ok args st then B args st else .stuck
theorem guardF_of {ok : List Val → Sto → Prop} {B : FV} {args : List Val} {st : Sto} (h : ok args st) : guardF ok B args st = B args st := if_pos h
theorem ref_guard {ok : List Val → Sto → Prop} {B : FV} (h : ∀ args st, ClS st → ClL st.length args → ok args st → ∃ v st1 l n, B args st = .ok v st1 ∧ Drawn l n st st1 ∧ ClV st.length v) : Refines (guardF ok B) B := fun args st k1 k2 => by
  by_cases hk : ok args st
  · obtain ⟨v, st1, l, n, e, d, c⟩ := h args st k1 k2 hk
    simp only [guardF_of hk, e]
    exact ⟨v, st1, rfl, by rw [d.len]; exact Nat.le_refl _, ⟨[], by simp⟩, d.cl k1, .inl ⟨rfl, by rw [d.len]; exact c⟩⟩
  · simp only [guardF, if_neg hk]
/-! ### comprehensions -/
theorem comp_pure {t : Tg} {cond : MT} {elt : ME} {ρ : Rho} {st : Sto} (g : Option (Nat × Cell)) (hg : Guard st g) (f : Val → Val) : ∀ (vs acc : List Val), (∀ v ∈ vs, ∃ ρ', t.asg v ρ = some ρ' ∧ cond ρ' st = .ok true st ∧ elt ρ' st = .ok (f v) st) →
    compLoop t cond elt g ρ vs acc st = .ok (acc ++ vs.map f) st
  | [], acc, _ => by simp [compLoop, hg]
  | v :: vs, acc, h => by
    obtain ⟨ρ', h1, h2, h3⟩ := h v List.mem_cons_self
    simp only [compLoop, hg, if_true, h1, h2, h3]
    rw [comp_pure g hg f vs _ fun u hu => h u (List.mem_cons_of_mem _ hu)]
    simp
theorem comp_sift {t : Tg} {cond : MT} {elt : ME} {ρ : Rho} {st : Sto} (g : Option (Nat × Cell)) (hg : Guard st g) (p : Val → Bool) (f : Val → Val) : ∀ (vs acc : List Val), (∀ v ∈ vs, ∃ ρ', t.asg v ρ = some ρ' ∧ cond ρ' st = .ok (p v) st ∧ (p v = true → elt ρ' st = .ok (f v) st)) →
    compLoop t cond elt g ρ vs acc st = .ok (acc ++ (vs.filter p).map f) st
  | [], acc, _ => by simp [compLoop, hg]
  | v :: vs, acc, h => by
    obtain ⟨ρ', h1, h2, h3⟩ := h v List.mem_cons_self
    have ih := fun acc => comp_sift (cond := cond) (elt := elt) g hg p f vs acc fun u hu => h u (List.mem_cons_of_mem _ hu)
    cases hp : p v with
    | true =>
      simp only [compLoop, hg, if_true, h1, h2, hp, h3 hp]
      rw [ih]
      simp [List.filter_cons, hp]
    | false =>
      simp only [compLoop, hg, if_true, h1, h2, hp, Bool.false_eq_true, if_false]
      rw [ih]
      simp [List.filter_cons, hp]
theorem comp_draws {t : Tg} {cond : MT} {elt : ME} {ρ : Rho} {l K : Nat} {P : Val → Prop} (h : ∀ v st, Town st l K → ∃ ρ', t.asg v ρ = some ρ' ∧ cond ρ' st = .ok true st ∧ ∃ y st1, elt ρ' st = .ok y st1 ∧ Drawn l K st st1 ∧ P y) :
    ∀ (vs acc : List Val) (st : Sto), Town st l (K * vs.length) → ∃ ys st1, compLoop t cond elt none ρ vs acc st = .ok (acc ++ ys) st1 ∧ ys.length = vs.length ∧ Drawn l (K * vs.length) st st1 ∧ ∀ y ∈ ys, P y
  | [], acc, st, T => ⟨[], st, by simp [compLoop, Guard], rfl, Drawn.refl T, fun _ h => nomatch h⟩
  | v :: vs, acc, st, T => by
    have T1 : Town st l (K + K * vs.length) := by
      rw [List.length_cons, Nat.mul_succ, Nat.add_comm] at T
      exact T
    obtain ⟨ρ', h1, h2, y, st1, h3, h4, h5⟩ := h v st (T1.mono (by omega))
    obtain ⟨ys, st2, h6, h7, h8, h9⟩ := comp_draws h vs (acc ++ [y]) st1 (h4.town T1 (by omega))
    refine ⟨y :: ys, st2, ?_, by simp [h7], ?_, ?_⟩
    · simp only [compLoop, Guard, if_true, h1, h2, h3]
      rw [h6]
      simp
    · rw [List.length_cons, Nat.mul_succ, Nat.add_comm]
      exact h4.trans h8
    · intro z hz
      rcases List.mem_cons.mp hz with rfl | hz
      · exact h5
      · exact h9 z hz
theorem eqF_rol_nil (ns : List Int) {st : Sto} : eqF (.rol (ns.map Val.int)) (.lst []) st = .ok (.bl (decide (ns = []))) st := by
  have h1 : SeqAt.shaped (.list (ns.map PyData.int)) = true := by
    obtain ⟨d, h1, h2, h3⟩ := nb_data (.lst (ns.map Val.int)) (by simp [Val.nb])
    simp only [Val.data, datas_ints, Option.map, Option.some.injEq] at h1
    subst h1
    simp [SeqAt.shaped, h2, h3, Val.dep]
  unfold eqF
  simp only [topData, Val.data, datas_ints, Option.map]
  simp only [Val.datas]
  rw [if_pos ⟨h1, by decide⟩]
  cases ns <;> simp [PyData.eqv, PyData.eqvAll]
theorem eqF_rol_nil0 {st : Sto} : eqF (.rol []) (.lst []) st = .ok (.bl true) st := by
  have := eqF_rol_nil [] (st := st)
  simpa using this
theorem ref_res {F B : FV} (h : ∀ args st, ClS st → ClL st.length args → F args st ≠ .stuck → ∃ v st1, F args st = .ok v st1 ∧ B args st = .ok v st1 ∧ (st1 = st ∨ ∃ l n, Drawn l n st st1) ∧ ClV st.length v) : Refines F B := fun args st k1 k2 => by
  by_cases hq : F args st = .stuck
  · rw [hq]
    trivial
  · obtain ⟨v, st1, e1, e2, d, c⟩ := h args st k1 k2 hq
    rw [e1]
    rcases d with rfl | ⟨l, n, d⟩
    · exact ⟨v, st1, e2, by have := trim_same (g := []) c; rwa [List.append_nil] at this⟩
    · exact ⟨v, st1, e2, by rw [d.len]; exact Nat.le_refl _, ⟨[], by simp⟩, d.cl k1, .inl ⟨rfl, by rw [d.len]; exact c⟩⟩
@[simp] theorem mulF_int {i j : Int} {st : Sto} : mulF (.int i) (.int j) st = @ite _ ((-(2 ^ 64) < i ∧ i < 2 ^ 64) ∨ (-(2 ^ 64) < j ∧ j < 2 ^ 64)) (Classical.propDecidable _) (.ok (.int (i * j)) st) .stuck := by unfold mulF; rfl
@[simp] theorem addF_int {i j : Int} {st : Sto} : addF (.int i) (.int j) st = .ok (.int (i + j)) st := rfl
@[simp] theorem subF_int {i j : Int} {st : Sto} : subF (.int i) (.int j) st = .ok (.int (i - j)) st := rfl
@[simp] theorem modF_int {i j : Int} {st : Sto} : modF (.int i) (.int j) st = if 0 < j then .ok (.int (i % j)) st else .stuck := rfl
@[simp] theorem powF_int {i j : Int} {st : Sto} : powF (.int i) (.int j) st = @ite _ (0 ≤ j ∧ j ≤ 1000000 ∧ i.natAbs < 2 ^ 64) (Classical.propDecidable _) (.ok (.int (i ^ j.toNat)) st) .stuck := by unfold powF; rfl
@[simp] theorem ltF_int {i j : Int} {st : Sto} : ltF (.int i) (.int j) st = .ok (.bl (decide (i < j))) st := rfl
@[simp] theorem leF_int {i j : Int} {st : Sto} : leF (.int i) (.int j) st = .ok (.bl (decide (i ≤ j))) st := rfl
theorem lstAt_set {st : Sto} {l : Nat} {ws : List Val} (h : l < st.length) : lstAt (st.set l (.lst ws)) l = some ws := by
  unfold lstAt
  rw [List.getElem?_set_self h]
theorem lstAt_eq {st : Sto} {l : Nat} {ws : List Val} (h : lstAt st l = some ws) : st[l]? = some (.lst ws) := by
  unfold lstAt at h
  split at h
  · cases h; assumption
  · cases h
theorem draw_eq {vs : List Val} {l : Nat} {m : Int} {st st1 : Sto} {v : Val} (e : F__law_draw [.rol vs, .ref l, .int m] st = .ok v st1) : ∃ ns ws, intsOf vs = some ns ∧ st[l]? = some (.lst ws) ∧ 0 < m ∧ ws.length < 1000000 ∧ v = .int (mixed ns (ws.length + 1) m) ∧ st1 = st.set l (.lst (ws ++ [.int 0])) := by
  unfold F__law_draw at e
  dsimp only at e
  cases h1 : intsOf vs with
  | none => rw [h1] at e; cases e
  | some ns =>
    cases h2 : lstAt st l with
    | none => rw [h1, h2] at e; cases e
    | some ws =>
      rw [h1, h2] at e
      dsimp only at e
      split at e
      · rename_i h0
        cases e
        exact ⟨ns, ws, rfl, lstAt_eq h2, h0.1, h0.2, rfl, rfl⟩
      · cases e
theorem eqF_int {i j : Int} {st : Sto} : eqF (.int i) (.int j) st = .ok (.bl (decide (i = j))) st := by
  rw [eqF_nb rfl rfl (by simp [Val.dep]) (by simp [Val.dep])]
  congr 2
  rw [decide_eq_decide]
  simp
end DL

namespace DL
open PySem PySem.Spec PyProof.Rows L2
/-! ### dice: what is one, what is made of one -/
def Val.top : Val → Bool
  | .non => true
  | .bl _ => true
  | .int _ => true
  | .str _ => true
  | .tup _ => true
  | .lst _ => true
  | _ => false
def wholeB (v : Val) (lo hi : Int) : Bool := match v with
  | .int i => decide (lo ≤ i ∧ i ≤ hi)
  | _ => false
def saneDie (v : Val) : Bool := v.top && (match v with
  | .tup vs => vs.all Val.top
  | _ => true)
def dieN (ns : List Int) : Bool := decide (1 ≤ ns.length ∧ ns.length ≤ 8 ∧ (∀ n ∈ ns, 0 ≤ n ∧ n ≤ 30) ∧ ns.Pairwise (· ≤ ·))
def dieOf (v : Val) : Option (List Int) := match v with
  | .tup vs => match intsOf vs with
    | some ns => if dieN ns = true then some ns else none
    | none => none
  | _ => none
abbrev vI (ns : List Int) : Val := .tup (ns.map Val.int)
def P_is_whole : List Val → Out
  | [v, .int lo, .int hi] => if v.top = true then .val (.bl (wholeB v lo hi)) else .no
  | _ => .no
abbrev F_is_whole : FV := pureF P_is_whole
def P_is_die : List Val → Out
  | [v] => if saneDie v = true then .val (.bl (dieOf v).isSome) else .no
  | _ => .no
abbrev F_is_die : FV := pureF P_is_die
def P_need_die : List Val → Out
  | [v] => if saneDie v = true then (if (dieOf v).isSome = true then .val .non else .err "NoDie") else .no
  | _ => .no
abbrev F_need_die : FV := pureF P_need_die
/-- sorted, a die | c -/
def madeO (c : Str) (ns : List Int) : Out := if dieN (sortI ns) = true then .val (vI (sortI ns)) else .err c
def P_made_die : List Val → Out
  | [.lst vs] => match intsOf vs with
    | some ns => madeO "NoNumber" ns
    | none => .no
  | _ => .no
abbrev F_made_die : FV := pureF P_made_die
def P_shifted : List Val → Out
  | [v, b] => if saneDie v = true then (match dieOf v with
    | none => .err "NoDie"
    | some ns => if b.top = true then (match b with
      | .int k => if -30 ≤ k ∧ k ≤ 30 then madeO "NoNumber" (ns.map (· + k)) else .err "NoNumber"
      | _ => .err "NoNumber") else .no) else .no
  | _ => .no
abbrev F_shifted : FV := pureF P_shifted
def P_stretched : List Val → Out
  | [v, b] => if saneDie v = true then (match dieOf v with
    | none => .err "NoDie"
    | some ns => if b.top = true then (match b with
      | .int k => if 1 ≤ k ∧ k ≤ 9 then madeO "NoNumber" (ns.map (· * k)) else .err "NoNumber"
      | _ => .err "NoNumber") else .no) else .no
  | _ => .no
abbrev F_stretched : FV := pureF P_stretched
/-- the first and the last face together -/
def ends (ns : List Int) : Int := ns.headD 0 + ns.getLastD 0
def P_mirrored : List Val → Out
  | [v] => if saneDie v = true then (match dieOf v with
    | none => .err "NoDie"
    | some ns => madeO "NoNumber" (ns.map fun f => ends ns - f)) else .no
  | _ => .no
abbrev F_mirrored : FV := pureF P_mirrored
def sums (ns ms : List Int) : List Int := ns.flatMap fun a => ms.map (a + ·)
def P_both : List Val → Out
  | [v, w] => if saneDie v = true then (match dieOf v with
    | none => .err "NoDie"
    | some ns => if saneDie w = true then (match dieOf w with
      | none => .err "NoDie"
      | some ms => madeO "TooMany" (sums ns ms)) else .no) else .no
  | _ => .no
abbrev F_both : FV := pureF P_both
/-! ### helps -/
theorem dieOf_eq {v : Val} {ns : List Int} (h : dieOf v = some ns) : v = vI ns ∧ dieN ns = true := by
  unfold dieOf at h
  split at h
  · split at h
    · rename_i vs ms e
      split at h
      · rename_i hd
        cases h
        exact ⟨by rw [intsOf_eq e], hd⟩
      · cases h
    · cases h
  · cases h
theorem dieOf_vI {ns : List Int} (h : dieN ns = true) : dieOf (vI ns) = some ns := by simp [dieOf, vI, h]
theorem sane_vI (ns : List Int) : saneDie (vI ns) = true := by simp [saneDie, vI, Val.top]
theorem dieN_iff {ns : List Int} : dieN ns = true ↔ 1 ≤ ns.length ∧ ns.length ≤ 8 ∧ (∀ n ∈ ns, 0 ≤ n ∧ n ≤ 30) ∧ ns.Pairwise (· ≤ ·) := by simp [dieN]
theorem boolsOf_f (f : Val → Bool) (vs : List Val) : boolsOf (vs.map fun v => Val.bl (f v)) = some (vs.map f) := by
  rw [show (vs.map fun v => Val.bl (f v)) = (vs.map f).map Val.bl by simp]
  exact boolsOf_map _
theorem all_whole {vs : List Val} {lo hi : Int} : vs.all (fun v => wholeB v lo hi) = true ↔ ∃ ns : List Int, vs = ns.map Val.int ∧ ∀ n ∈ ns, lo ≤ n ∧ n ≤ hi := by
  constructor
  · intro h
    induction vs with
    | nil => exact ⟨[], rfl, fun _ h => nomatch h⟩
    | cons v vs ih =>
      simp only [List.all_cons, Bool.and_eq_true] at h
      obtain ⟨ns, rfl, h2⟩ := ih h.2
      cases v with
      | int i =>
        refine ⟨i :: ns, rfl, fun n hn => ?_⟩
        rcases List.mem_cons.mp hn with rfl | hn
        · simpa [wholeB] using h.1
        · exact h2 n hn
      | _ => simp [wholeB] at h
  · rintro ⟨ns, rfl, h⟩
    simp only [List.all_map, List.all_eq_true, Function.comp]
    intro n hn
    simpa [wholeB] using h n hn
theorem intsOf_none_of {vs : List Val} {lo hi : Int} (h : intsOf vs = none) : vs.all (fun v => wholeB v lo hi) = false := by
  cases e : vs.all (fun v => wholeB v lo hi) with
  | false => rfl
  | true =>
    obtain ⟨ns, rfl, _⟩ := all_whole.mp e
    simp at h
theorem ix_first {ns : List Int} (h : 1 ≤ ns.length) : atI (ns.map Val.int) 0 = some (.int (ns.headD 0)) := by
  cases ns with
  | nil => simp at h
  | cons n ns => simp [atI, ixN]
theorem ix_last {ns : List Int} (h : 1 ≤ ns.length) : atI (ns.map Val.int) (-1) = some (.int (ns.getLastD 0)) := by
  have : ixN (ns.map Val.int).length (-1) = some (ns.length - 1) := by
    simp only [ixN, List.length_map]
    rw [if_neg (by omega), if_pos (by omega)]
    congr 1
    omega
  unfold atI
  rw [this]
  simp only [Option.bind, List.getElem?_map]
  rw [show ns.getLastD 0 = (ns.getLast?).getD 0 by cases ns <;> simp [List.getLastD, List.getLast?], List.getLast?_eq_getElem?]
  rw [List.getElem?_eq_getElem (by omega)]
  rfl
theorem madeO_out {c : Str} {ns : List Int} {st : Sto} {r : Res Val} (g : List Cell) (e : r = (madeO c ns).res (st ++ g)) : madeO c ns = .no ∨ (∃ v g, madeO c ns = .val v ∧ (∀ n, ClV n v) ∧ r = .ok v (st ++ g)) ∨ ∃ c' g, madeO c ns = .err c' ∧ r = .exc c' (st ++ g) := by
  subst e
  unfold madeO
  split
  · exact .inr (.inl ⟨_, g, rfl, fun _ => .tup (cl_ints _), rfl⟩)
  · exact .inr (.inr ⟨_, g, rfl, rfl⟩)
/-- a call's outcome, handed on -/
theorem madeO_ret {r : Res Val} {ρ : Rho} : (match (match r with | .ok v st1 => ResS.ret v st1 | .exc c s => .exc c ρ s | .stuck => .stuck) with
  | .ret v st' => .ok v st'
  | .next _ st' => .ok .non st'
  | .exc c _ st' => .exc c st'
  | _ => .stuck) = r := by
  cases r <;> rfl
theorem made_cl {c : Str} {ns : List Int} {v : Val} (h : madeO c ns = .val v) (n : Nat) : ClV n v := by
  unfold madeO at h
  split at h
  · cases h; exact .tup (cl_ints _)
  · cases h
theorem shifted_cl {d b : Val} {v : Val} (h : P_shifted [d, b] = .val v) (n : Nat) : ClV n v := by
  unfold P_shifted at h
  (repeat' split at h) <;> first | exact made_cl h n | cases h
theorem stretched_cl {d b : Val} {v : Val} (h : P_stretched [d, b] = .val v) (n : Nat) : ClV n v := by
  unfold P_stretched at h
  (repeat' split at h) <;> first | exact made_cl h n | cases h
theorem both_cl {d b : Val} {v : Val} (h : P_both [d, b] = .val v) (n : Nat) : ClV n v := by
  unfold P_both at h
  (repeat' split at h) <;> first | exact made_cl h n | cases h
theorem mirrored_cl {d : Val} {v : Val} (h : P_mirrored [d] = .val v) (n : Nat) : ClV n v := by
  unfold P_mirrored at h
  (repeat' split at h) <;> first | exact made_cl h n | cases h
end DL

namespace DL
open PySem PySem.Spec PyProof.Rows L2
section
variable {ρ : Rho} {st : Sto}
@[simp] theorem mD0_ap : mD0 ρ st = .ok (.dic []) st := rfl
@[simp] theorem mD1_ap {i j : Int} : mD1 i j ρ st = .ok (.dic [(.inl i, .int j)]) st := rfl
@[simp] theorem mNo_ap : mNo ρ st = .ok none st := rfl
@[simp] theorem mPart_ap {m : ME} : mPart m ρ st = (match m ρ st with | .ok v st1 => (match v with | .int i => .ok (some i) st1 | _ => .stuck) | .exc c s => .exc c s | .stuck => .stuck) := by
  unfold mPart
  cases m ρ st with
  | ok v s => cases v <;> rfl
  | exc c s => rfl
  | stuck => rfl
theorem mSlice_ap {m : ME} {lo hi : MO} {v r : Val} {st1 st2 st3 : Sto} {l h : Option Int} (e1 : m ρ st = .ok v st1) (e2 : lo ρ st1 = .ok l st2) (e3 : hi ρ st2 = .ok h st3) (e4 : sliceG v l h st3 = some r) : mSlice m lo hi ρ st = .ok r st3 := by
  unfold mSlice
  simp only [e1, e2, e3, e4, Res.bind_ok]
theorem mGet_ap {mo mi mf : ME} {v k z : Val} {st1 st2 st3 : Sto} {kvs kvs1 : List (Key × V)} {q : Key} (e1 : mo ρ st = .ok v st1) (h1 : dictOf v st1 = some kvs1) (e2 : mi ρ st1 = .ok k st2) (e3 : mf ρ st2 = .ok z st3) (h2 : dictOf v st3 = some kvs) (hk : keyD k = some q) :
    mGet mo mi mf ρ st = (match valV kvs q with | some x => (match ofV x with | some u => .ok u st3 | none => .stuck) | none => .ok z st3) := by
  unfold mGet
  simp only [e1, e2, e3, h1, h2, hk, Res.bind_ok, Option.isSome_some, if_true]
  try (cases valV kvs q with | none => rfl | some x => (dsimp only; cases ofV x <;> rfl))
theorem mDPut_ap {mo mi mv : ME} {w k : Val} {st1 st2 st3 : Sto} {l : Nat} {kvs : List (Key × V)} {q : Key} {x : V} (e1 : mv ρ st = .ok w st1) (e2 : mo ρ st1 = .ok (.ref l) st2) (e3 : mi ρ st2 = .ok k st3) (hk : keyD k = some q) (hw : flatD w = some x) (hc : st3[l]? = some (.dic kvs)) (hz : kvs.length < sizeLine) :
    mDPut mo mi mv ρ st = .next ρ (st3.set l (.dic (putK kvs q x))) := by
  unfold mDPut withE
  simp only [e1, e2, e3, hk, hw, hc, hz, if_true]
end
/-! ### dice, rolls -/
def diesOf : List Val → Option (List (List Int))
  | [] => some []
  | v :: vs => match dieOf v, diesOf vs with
    | some d, some ds => some (d :: ds)
    | _, _ => none
def diceOf (v : Val) : Option (List (List Int)) := match v with
  | .tup vs => if 1 ≤ vs.length ∧ vs.length ≤ 4 then diesOf vs else none
  | _ => none
def saneDice (v : Val) : Bool := v.top && (match v with
  | .tup vs => vs.all saneDie
  | _ => true)
abbrev vD (ds : List (List Int)) : Val := .tup (ds.map vI)
def diceN (ds : List (List Int)) : Prop := 1 ≤ ds.length ∧ ds.length ≤ 4 ∧ ∀ d ∈ ds, dieN d = true
theorem diesOf_eq : ∀ {vs : List Val} {ds : List (List Int)}, diesOf vs = some ds → vs = ds.map vI ∧ ∀ d ∈ ds, dieN d = true
  | [], _, h => by cases h; exact ⟨rfl, fun _ h => nomatch h⟩
  | v :: vs, _, h => by
    simp only [diesOf] at h
    split at h
    · rename_i d ds e1 e2
      cases h
      obtain ⟨rfl, hd⟩ := dieOf_eq e1
      obtain ⟨rfl, hds⟩ := diesOf_eq e2
      refine ⟨rfl, fun x hx => ?_⟩
      rcases List.mem_cons.mp hx with rfl | hx
      · exact hd
      · exact hds x hx
    · cases h
theorem diesOf_vI : ∀ {ds : List (List Int)}, (∀ d ∈ ds, dieN d = true) → diesOf (ds.map vI) = some ds
  | [], _ => rfl
  | d :: ds, h => by
    simp only [List.map_cons, diesOf, dieOf_vI (h d List.mem_cons_self), diesOf_vI fun x hx => h x (List.mem_cons_of_mem _ hx)]
theorem diceOf_eq {v : Val} {ds : List (List Int)} (h : diceOf v = some ds) : v = vD ds ∧ diceN ds := by
  unfold diceOf at h
  split at h
  · rename_i vs
    split at h
    · rename_i hl
      obtain ⟨rfl, hd⟩ := diesOf_eq h
      rw [List.length_map] at hl
      exact ⟨rfl, hl.1, hl.2, hd⟩
    · cases h
  · cases h
theorem diceOf_vD {ds : List (List Int)} (h : diceN ds) : diceOf (vD ds) = some ds := by
  simp only [diceOf]
  rw [if_pos (by rw [List.length_map]; exact ⟨h.1, h.2.1⟩)]
  exact diesOf_vI h.2.2
theorem sane_vD (ds : List (List Int)) : saneDice (vD ds) = true := by
  simp [saneDice, vD, Val.top, Function.comp_def, sane_vI]
theorem diesOf_all : ∀ vs : List Val, vs.all (fun v => (dieOf v).isSome) = (diesOf vs).isSome
  | [] => rfl
  | v :: vs => by
    rw [List.all_cons, diesOf_all vs]
    simp only [diesOf]
    cases dieOf v <;> cases diesOf vs <;> rfl
def P_are_dice : List Val → Out
  | [v] => if saneDice v = true then .val (.bl (diceOf v).isSome) else .no
  | _ => .no
abbrev F_are_dice : FV := pureF P_are_dice
def P_need_dice : List Val → Out
  | [v] => if saneDice v = true then (if (diceOf v).isSome = true then .val .non else .err "NoDice") else .no
  | _ => .no
abbrev F_need_dice : FV := pureF P_need_dice
/-! rows -/
def grow (rows : List (List Int)) (die : List Int) : List (List Int) := rows.flatMap fun row => die.map fun f => row ++ [f]
def rowsL (ds : List (List Int)) : List (List Int) := ds.foldl grow [[]]
def sortR (rows : List (List Int)) : List (List Int) := rows.mergeSort fun a b => decide (a ≤ b)
def rollsL (ds : List (List Int)) : List (List Int) := sortR (rowsL ds)
theorem enc_vI (ns : List Int) : (vI ns).enc = .tuple (ns.map PyData.int) := by simp [Val.enc, Val.data]
theorem sortV_rows (rows : List (List Int)) : sortV (rows.map vI) = (sortR rows).map vI := by
  unfold sortV sortR
  symm
  apply List.map_mergeSort
  intro a _ b _
  have := congrFun (congrFun (PySem.W.dataLe_rows (fun b : List Int => b)) a) b
  rw [← this]
  simp only [PySem.W.dataLe, PySem.W.sortLe, enc_vI, PySem.W.keyToks]
theorem datas_rows : ∀ rows : List (List Int), Val.datas (rows.map vI) = some (rows.map fun r => .tuple (r.map PyData.int))
  | [] => rfl
  | r :: rows => by simp [Val.datas, Val.data, datas_rows rows]
theorem sortOk_rows {rows : List (List Int)} (h : ∀ r ∈ rows, r ≠ []) : SortOk (rows.map vI) := by
  refine ⟨_, datas_rows rows, ?_, .inl ?_, ?_⟩
  · exact PySem.W.AllAlike.of fun a b => by rw [PySem.W.alike]; exact PySem.W.alike_ints a b
  · intro d hd
    obtain ⟨r, hr, rfl⟩ := List.mem_map.mp hd
    cases r with
    | nil => exact absurd rfl (h _ hr)
    | cons x r => exact ⟨_, _, rfl⟩
  · intro d hd
    obtain ⟨r, hr, rfl⟩ := List.mem_map.mp hd
    simp [PyData.depth, PySem.W.depth_ints]
theorem sortR_perm (rows : List (List Int)) : (sortR rows).Perm rows := List.mergeSort_perm _ _
theorem grow_len (rows : List (List Int)) (die : List Int) : (grow rows die).length = rows.length * die.length := by
  unfold grow
  induction rows with
  | nil => simp
  | cons r rows ih => simp only [List.flatMap_cons, List.length_append, List.length_map, ih, List.length_cons]; rw [Nat.succ_mul, Nat.add_comm]
theorem grow_rows {rows : List (List Int)} {die : List Int} {k : Nat} (h : ∀ r ∈ rows, r.length = k) : ∀ r ∈ grow rows die, r.length = k + 1 := by
  intro r hr
  simp only [grow, List.mem_flatMap, List.mem_map] at hr
  obtain ⟨q, hq, f, _, rfl⟩ := hr
  simp [h q hq]
theorem fold_rows : ∀ (ds : List (List Int)) {rows : List (List Int)} {k : Nat}, (∀ r ∈ rows, r.length = k) → ∀ r ∈ ds.foldl grow rows, r.length = k + ds.length
  | [], _, _, h => h
  | d :: ds, _, _, h => fun r hr => by
    have := fold_rows ds (grow_rows h) r hr
    simp only [List.length_cons]
    omega
theorem fold_len : ∀ (ds : List (List Int)) {rows : List (List Int)}, (∀ d ∈ ds, d.length ≤ 8) → (ds.foldl grow rows).length ≤ rows.length * 8 ^ ds.length
  | [], rows, _ => by simp
  | d :: ds, rows, h => by
    have h1 := fold_len ds (rows := grow rows d) fun x hx => h x (List.mem_cons_of_mem _ hx)
    rw [grow_len] at h1
    have h2 := h d List.mem_cons_self
    simp only [List.foldl_cons, List.length_cons]
    calc _ ≤ _ := h1
      _ ≤ rows.length * 8 * 8 ^ ds.length := Nat.mul_le_mul_right _ (Nat.mul_le_mul_left _ h2)
      _ = _ := by rw [Nat.mul_assoc, Nat.pow_succ, Nat.mul_comm 8]
theorem rolls_row {ds : List (List Int)} : ∀ r ∈ rollsL ds, r.length = ds.length := fun r hr => by
  have := fold_rows ds (rows := [[]]) (k := 0) (by simp) r ((sortR_perm _).mem_iff.mp hr)
  omega
theorem rolls_len {ds : List (List Int)} (h : diceN ds) : (rollsL ds).length ≤ 4096 := by
  have h1 := fold_len ds (rows := [[]]) fun d hd => (dieN_iff.mp (h.2.2 d hd)).2.1
  have h2 : (rollsL ds).length = (rowsL ds).length := (sortR_perm _).length_eq
  rw [h2]
  refine Nat.le_trans h1 ?_
  rw [List.length_singleton, Nat.one_mul]
  calc 8 ^ ds.length ≤ 8 ^ 4 := Nat.pow_le_pow_right (by decide) h.2.1
    _ = 4096 := by decide
theorem rowsL_ne {ds : List (List Int)} (h : 1 ≤ ds.length) : ∀ r ∈ rowsL ds, r ≠ [] := fun r hr e => by
  have := fold_rows ds (rows := [[]]) (k := 0) (by simp) r hr
  rw [e] at this
  simp at this
  omega
abbrev vR (rows : List (List Int)) : Val := .lst (rows.map vI)
def P_rolls : List Val → Out
  | [v] => if saneDice v = true then (match diceOf v with
    | none => .err "NoDice"
    | some ds => .val (vR (rollsL ds))) else .no
  | _ => .no
abbrev F_rolls : FV := pureF P_rolls
theorem cl_rows {n : Nat} : ∀ rows : List (List Int), ClL n (rows.map vI)
  | [] => .nil
  | r :: rows => .cons (.tup (cl_ints r)) (cl_rows rows)
/-- what is read as a list of rows -/
def LIs (v : Val) (rows : List (List Int)) (st : Sto) : Prop := v = vR rows ∨ ∃ l, v = .ref l ∧ st[l]? = some (.lst (rows.map vI))
/-! ### books -/
def getI (bk : List (Int × Int)) (t : Int) : Option Int := (bk.find? fun p => decide (p.1 = t)).map (·.2)
def putI (bk : List (Int × Int)) (t n : Int) : List (Int × Int) := if (bk.any fun p => decide (p.1 = t)) = true then bk.map (fun p => if p.1 = t then (p.1, n) else p) else bk ++ [(t, n)]
abbrev toK (bk : List (Int × Int)) : List (Key × V) := bk.map fun p => ((.inl p.1 : Key), V.int p.2)
theorem valV_toK (t : Int) : ∀ bk : List (Int × Int), valV (toK bk) (.inl t) = (getI bk t).map V.int
  | [] => rfl
  | p :: bk => by
    have ih := valV_toK t bk
    by_cases e : p.1 = t
    · subst e
      simp [valV, getI, List.find?_cons]
    · have e2 : ¬ ((.inl p.1 : Key) = .inl t) := fun q => e (by cases q; rfl)
      simp only [valV, getI, toK, List.map_cons, List.find?_cons, decide_eq_false e, decide_eq_false e2] at ih ⊢
      exact ih
theorem putK_toK (t n : Int) (bk : List (Int × Int)) : putK (toK bk) (.inl t) (.int n) = toK (putI bk t n) := by
  have h1 : ((toK bk).any fun kv => decide (kv.1 = (.inl t : Key))) = bk.any fun p => decide (p.1 = t) := by
    simp only [toK, List.any_map]
    congr 1
    funext p
    simp
  unfold putK putI
  rw [h1]
  split
  · simp only [toK, List.map_map]
    congr 1
    funext p
    by_cases e : p.1 = t
    · simp [e]
    · have e2 : ¬ ((.inl p.1 : Key) = .inl t) := fun q => e (by cases q; rfl)
      simp [e]
  · simp [toK]
theorem putI_len (bk : List (Int × Int)) (t n : Int) : (putI bk t n).length ≤ bk.length + 1 := by
  unfold putI
  split <;> simp
def tally (bk : List (Int × Int)) (t : Int) : List (Int × Int) := putI bk t ((getI bk t).getD 0 + 1)
def book (ts : List Int) : List (Int × Int) := ts.foldl tally []
abbrev pI (p : Int × Int) : Val := .tup [.int p.1, .int p.2]
theorem pairs_toK : ∀ bk : List (Int × Int), pairsV (toK bk) = some (bk.map pI)
  | [] => rfl
  | p :: bk => by
    have ih := pairs_toK bk
    simp only [toK, List.map_cons, pairsV] at ih ⊢
    rw [ih]
    rfl
def sortP (bk : List (Int × Int)) : List (Int × Int) := bk.mergeSort fun p q => decide (p.1 < q.1 ∨ (p.1 = q.1 ∧ p.2 ≤ q.2))
theorem enc_pI (p : Int × Int) : (pI p).enc = .tuple [.int p.1, .int p.2] := rfl
theorem sortV_pairs (bk : List (Int × Int)) : sortV (bk.map pI) = (sortP bk).map pI := by
  unfold sortV sortP
  symm
  apply List.map_mergeSort
  intro a _ b _
  have := congrFun (congrFun (PySem.W.dataLe_ii (fun p : Int × Int => p.1) (fun p => p.2)) a) b
  rw [← this]
  rfl
theorem datas_pairs : ∀ bk : List (Int × Int), Val.datas (bk.map pI) = some (bk.map fun p => .tuple [.int p.1, .int p.2])
  | [] => rfl
  | p :: bk => by simp [Val.datas, Val.data, datas_pairs bk]
theorem sortOk_pairs (bk : List (Int × Int)) : SortOk (bk.map pI) := by
  refine ⟨_, datas_pairs bk, ?_, .inl ?_, ?_⟩
  · exact PySem.W.AllAlike.of fun a b => by simp [PySem.W.alike, PySem.W.alikeAll]
  · intro d hd
    obtain ⟨r, hr, rfl⟩ := List.mem_map.mp hd
    exact ⟨_, _, rfl⟩
  · intro d hd
    obtain ⟨r, hr, rfl⟩ := List.mem_map.mp hd
    simp [PyData.depth, PyData.depthAll]
theorem sortIt_toK {v : Val} {bk : List (Int × Int)} {st : Sto} (h : dictOf v st = some (toK bk)) : sortItF v st = .ok (.lst ((sortP bk).map pI)) st := by
  unfold sortItF
  rw [h]
  simp only [Option.bind, pairs_toK]
  rw [if_pos (sortOk_pairs bk), sortV_pairs]
theorem cl_pairs {n : Nat} : ∀ bk : List (Int × Int), ClL n (bk.map pI)
  | [] => .nil
  | r :: rows => .cons (.tup (.cons (.int _) (.cons (.int _) .nil))) (cl_pairs rows)
/-! ### kept -/
def keptI (ns : List Int) (k : Nat) (up : Bool) : Int := if up = true then ((sortI ns).drop (ns.length - k)).sum else ((sortI ns).take k).sum
def P_kept_of : List Val → Out
  | [.tup vs, .int k, .str x] => match intsOf vs with
    | some ns => if (1 ≤ k ∧ k ≤ ns.length) ∧ (x = "greatest" ∨ x = "least") then .val (.int (keptI ns k.toNat (decide (x = "greatest")))) else .no
    | none => .no
  | _ => .no
abbrev F_kept_of : FV := pureF P_kept_of
def keptL (ds : List (List Int)) (k : Nat) (up : Bool) : List (Int × Int) := sortP (book ((rollsL ds).map fun r => keptI r k up))
def P_kept : List Val → Out
  | [v, m, s] => if saneDice v = true then (match diceOf v with
    | none => .err "NoDice"
    | some ds => if m.top = true then (if wholeB m 1 ds.length = true then (if s.top = true then (match s with
      | .str x => if x = "greatest" ∨ x = "least" then (match m with
        | .int k => .val (.lst ((keptL ds k.toNat (decide (x = "greatest"))).map pI))
        | _ => .no) else .err "NoSide"
      | _ => .err "NoSide") else .no) else .err "NoNumber") else .no) else .no
  | _ => .no
abbrev F_kept : FV := pureF P_kept
end DL

namespace DL
open PySem PySem.Spec PyProof.Rows L2
/-! ### what a book says -/
structure Bk (bk : List (Int × Int)) (S : List Int) : Prop where
  nd : (bk.map (·.1)).Nodup
  get : ∀ t, getI bk t = if S.count t = 0 then none else some (S.count t : Int)
theorem getI_cons (p : Int × Int) (bk : List (Int × Int)) (t : Int) : getI (p :: bk) t = if p.1 = t then some p.2 else getI bk t := by
  by_cases e : p.1 = t
  · simp [getI, List.find?_cons, e]
  · simp [getI, List.find?_cons, e]
theorem getI_mem {bk : List (Int × Int)} {t : Int} : (getI bk t).isSome = true ↔ t ∈ bk.map (·.1) := by
  induction bk with
  | nil => simp [getI]
  | cons p bk ih =>
    rw [getI_cons]
    by_cases e : p.1 = t
    · simp [e]
    · simp only [e, if_false, ih, List.map_cons, List.mem_cons]
      constructor
      · exact fun h => .inr h
      · rintro (h | h)
        · exact absurd h.symm e
        · exact h
theorem any_mem {bk : List (Int × Int)} {t : Int} : (bk.any fun p => decide (p.1 = t)) = true ↔ t ∈ bk.map (·.1) := by
  simp [List.any_eq_true, List.mem_map]
theorem keys_map (t n : Int) : ∀ bk : List (Int × Int), ((bk.map fun p => if p.1 = t then (p.1, n) else p).map (·.1)) = bk.map (·.1)
  | [] => rfl
  | p :: bk => by
    have := keys_map t n bk
    simp only [List.map_cons, this]
    by_cases e : p.1 = t <;> simp [e]
theorem getI_map (t n u : Int) : ∀ bk : List (Int × Int), getI (bk.map fun p => if p.1 = t then (p.1, n) else p) u = if u = t then (getI bk u).map (fun _ => n) else getI bk u
  | [] => by simp [getI]
  | p :: bk => by
    have ih := getI_map t n u bk
    rw [List.map_cons, getI_cons, getI_cons, ih]
    by_cases e : p.1 = t
    · by_cases e2 : u = t
      · subst e2; simp [e]
      · have e3 : ¬ t = u := fun q => e2 q.symm
        simp [e, e2, e3]
    · by_cases e2 : p.1 = u
      · have e3 : ¬ u = t := fun q => e (e2.trans q)
        simp [e, e2, e3]
      · simp [e, e2]
theorem getI_app (t n u : Int) : ∀ bk : List (Int × Int), ¬ t ∈ bk.map (·.1) → getI (bk ++ [(t, n)]) u = if u = t then some n else getI bk u
  | [], _ => by
    rw [List.nil_append, getI_cons]
    by_cases e : u = t
    · simp [e]
    · have : ¬ t = u := fun q => e q.symm
      simp [e, this]
  | p :: bk, h => by
    simp only [List.map_cons, List.mem_cons, not_or] at h
    have ih := getI_app t n u bk h.2
    rw [List.cons_append, getI_cons, getI_cons, ih]
    by_cases e : p.1 = u
    · have : ¬ u = t := fun q => h.1 (q.symm.trans e.symm)
      simp [e, this]
    · simp [e]
theorem getI_put (bk : List (Int × Int)) (t n u : Int) : getI (putI bk t n) u = if u = t then some n else getI bk u := by
  unfold putI
  by_cases h : (bk.any fun p => decide (p.1 = t)) = true
  · rw [if_pos h, getI_map]
    by_cases e : u = t
    · subst e
      have := getI_mem.mpr (any_mem.mp h)
      cases q : getI bk u with
      | none => rw [q] at this; cases this
      | some v => simp
    · simp [e]
  · rw [if_neg h]
    exact getI_app t n u bk fun q => h (any_mem.mpr q)
theorem nd_put {bk : List (Int × Int)} (h : (bk.map (·.1)).Nodup) (t n : Int) : ((putI bk t n).map (·.1)).Nodup := by
  unfold putI
  by_cases q : (bk.any fun p => decide (p.1 = t)) = true
  · rw [if_pos q, keys_map]
    exact h
  · rw [if_neg q, List.map_append]
    refine List.nodup_append.mpr ⟨h, by simp, fun a ha b hb => ?_⟩
    simp only [List.map_cons, List.map_nil, List.mem_singleton] at hb
    subst hb
    rintro rfl
    exact q (any_mem.mpr ha)
theorem Bk.nil : Bk [] [] := ⟨by simp, fun t => by simp [getI]⟩
theorem Bk.perm {bk : List (Int × Int)} {S S' : List Int} (h : Bk bk S) (p : S.Perm S') : Bk bk S' := ⟨h.nd, fun t => by rw [h.get t, p.count_eq]⟩
/-- n more of t -/
theorem Bk.put {bk : List (Int × Int)} {S : List Int} (h : Bk bk S) (t : Int) (n : Nat) (hn : 0 < n) : Bk (putI bk t ((getI bk t).getD 0 + n)) (List.replicate n t ++ S) := by
  refine ⟨nd_put h.nd t _, fun u => ?_⟩
  rw [getI_put]
  by_cases e : u = t
  · subst e
    have hc : (List.replicate n u ++ S).count u = n + S.count u := by simp [List.count_append, List.count_replicate]
    rw [if_pos rfl, hc, if_neg (by omega), h.get u]
    by_cases z : S.count u = 0
    · simp [z]
    · rw [if_neg z]
      simp only [Option.getD_some]
      congr 1
      omega
  · have hc : (List.replicate n t ++ S).count u = S.count u := by
      have : ¬ t = u := fun q => e q.symm
      simp [List.count_append, List.count_replicate, this]
    rw [if_neg e, hc]
    exact h.get u
theorem Bk.tally {bk : List (Int × Int)} {S : List Int} (h : Bk bk S) (t : Int) : Bk (tally bk t) (t :: S) := h.put t 1 (by decide)
theorem bk_fold : ∀ (ts : List Int) {bk : List (Int × Int)} {S : List Int}, Bk bk S → Bk (ts.foldl tally bk) (ts ++ S)
  | [], _, _, h => h
  | t :: ts, _, _, h => (bk_fold ts (h.tally t)).perm (by
    rw [List.cons_append]
    exact List.perm_middle)
theorem bk_book (ts : List Int) : Bk (book ts) ts := by
  have := bk_fold ts Bk.nil
  rwa [List.append_nil] at this
theorem perm_sum {l l' : List Int} (h : l.Perm l') : l.sum = l'.sum := by
  induction h with
  | nil => rfl
  | cons x _ ih => simp [ih]
  | swap x y l => simp; omega
  | trans _ _ h1 h2 => exact h1.trans h2
theorem Bk.rest {p : Int × Int} {bk : List (Int × Int)} {S : List Int} (h : Bk (p :: bk) S) : p.2 = (S.count p.1 : Int) ∧ Bk bk (S.filter fun u => decide (u ≠ p.1)) := by
  have hn := List.nodup_cons.mp (show (p.1 :: bk.map (·.1)).Nodup from h.nd)
  have h1 := h.get p.1
  rw [getI_cons, if_pos rfl] at h1
  refine ⟨?_, hn.2, fun t => ?_⟩
  · split at h1
    · cases h1
    · exact Option.some.inj h1
  · by_cases e : t = p.1
    · subst e
      have hc : (S.filter fun u => decide (u ≠ p.1)).count p.1 = 0 := by
        rw [List.count_eq_zero]
        simp [List.mem_filter]
      rw [hc, if_pos rfl]
      cases q : getI bk p.1 with
      | none => rfl
      | some v => exact absurd (getI_mem.mp (by rw [q]; rfl)) hn.1
    · have hc : (S.filter fun u => decide (u ≠ p.1)).count t = S.count t := List.count_filter (by simp [e])
      have := h.get t
      rw [getI_cons, if_neg (fun q => e q.symm)] at this
      rw [hc]
      exact this
/-- how often what p tells -/
theorem Bk.sum : ∀ {bk : List (Int × Int)} {S : List Int}, Bk bk S → ∀ p : Int → Bool, ((bk.filter fun q => p q.1).map (·.2)).sum = ((S.filter p).length : Int)
  | [], S, h, p => by
    have : S = [] := by
      cases S with
      | nil => rfl
      | cons t S =>
        have := h.get t
        simp [getI] at this
    subst this
    rfl
  | q :: bk, S, h, p => by
    obtain ⟨h1, h2⟩ := h.rest
    have ih := Bk.sum h2 p
    have split : ∀ S : List Int, (S.filter p).length = (if p q.1 = true then S.count q.1 else 0) + ((S.filter fun u => decide (u ≠ q.1)).filter p).length := by
      intro S
      induction S with
      | nil => simp
      | cons u S ih =>
        by_cases e : u = q.1
        · subst e
          by_cases hp : p q.1 = true
          · simp [List.filter_cons, hp] at ih ⊢
            omega
          · simp [List.filter_cons, hp] at ih ⊢
            omega
        · by_cases hp : p u = true
          · have e2 : (u == q.1) = false := by simpa using e
            by_cases hq : p q.1 = true
            · simp [List.filter_cons, hp, hq, e, List.count_cons] at ih ⊢
              omega
            · simp [List.filter_cons, hp, hq, e] at ih ⊢
              omega
          · by_cases hq : p q.1 = true
            · simp [List.filter_cons, hp, hq, e, List.count_cons] at ih ⊢
              omega
            · simp [List.filter_cons, hp, hq, e] at ih ⊢
              omega
    rw [split S]
    by_cases hp : p q.1 = true
    · simp only [List.filter_cons, hp, if_true, List.map_cons, List.sum_cons, ih, h1]
      omega
    · have e : (q :: bk).filter (fun q => p q.1) = bk.filter fun q => p q.1 := by simp [List.filter_cons, hp]
      rw [e, ih, if_neg hp, Nat.zero_add]
theorem sortP_perm (bk : List (Int × Int)) : (sortP bk).Perm bk := List.mergeSort_perm _ _
theorem Bk.sumP {bk : List (Int × Int)} {S : List Int} (h : Bk bk S) (p : Int → Bool) : (((sortP bk).filter fun q => p q.1).map (·.2)).sum = ((S.filter p).length : Int) := by
  rw [← h.sum p]
  exact perm_sum (((sortP_perm bk).filter _).map _)
/-! ### rows, one by one -/
theorem grow_all (p : Int → Bool) (rows : List (List Int)) (die : List Int) : ((grow rows die).filter fun r => r.all p).length = (rows.filter fun r => r.all p).length * (die.filter p).length := by
  unfold grow
  induction rows with
  | nil => simp
  | cons r rows ih =>
    rw [List.flatMap_cons, List.filter_append, List.length_append, ih]
    have e : ((die.map fun f => r ++ [f]).filter fun r => r.all p).length = if r.all p = true then (die.filter p).length else 0 := by
      rw [List.filter_map, List.length_map]
      by_cases hr : r.all p = true
      · rw [if_pos hr]
        congr 1
        congr 1
        funext f
        simp only [Function.comp, List.all_append, hr, List.all_cons, List.all_nil, Bool.true_and, Bool.and_true]
      · rw [if_neg hr]
        rw [List.length_eq_zero_iff, List.filter_eq_nil_iff]
        intro f _
        rw [Bool.not_eq_true] at hr
        simp only [Function.comp, List.all_append, hr, Bool.false_and]
        decide
    rw [e]
    by_cases hr : r.all p = true
    · simp only [List.filter_cons, hr, if_true, List.length_cons, Nat.succ_mul]
      omega
    · simp only [List.filter_cons, hr, if_false]
      simp
def prodN (f : List Int → Nat) : List (List Int) → Nat
  | [] => 1
  | d :: ds => f d * prodN f ds
theorem fold_all (p : Int → Bool) : ∀ (ds rows : List (List Int)), ((ds.foldl grow rows).filter fun r => r.all p).length = (rows.filter fun r => r.all p).length * prodN (fun d => (d.filter p).length) ds
  | [], rows => by simp [prodN]
  | d :: ds, rows => by
    rw [List.foldl_cons, fold_all p ds, grow_all]
    simp only [prodN]
    rw [Nat.mul_assoc]
theorem rolls_all (p : Int → Bool) (ds : List (List Int)) : ((rollsL ds).filter fun r => r.all p).length = prodN (fun d => (d.filter p).length) ds := by
  have h1 : ((rollsL ds).filter fun r => r.all p).length = ((rowsL ds).filter fun r => r.all p).length := ((sortR_perm _).filter _).length_eq
  rw [h1, rowsL, fold_all]
  show 1 * _ = _
  exact Nat.one_mul _
/-! ### one kept -/
theorem kept_max {r : List Int} (h : 1 ≤ r.length) (T : Int) : decide (keptI r 1 true ≤ T) = r.all fun f => decide (f ≤ T) := by
  have hl : (sortI r).length = r.length := sortI_len r
  have hs := sortI_sorted r
  have hd : (sortI r).drop (r.length - 1) = [(sortI r)[r.length - 1]'(by omega)] := by
    rw [List.drop_eq_getElem_cons (by omega), List.drop_eq_nil_of_le (by omega)]
  rw [Bool.eq_iff_iff]
  simp only [keptI, if_true, hd, List.sum_cons, List.sum_nil, Int.add_zero, decide_eq_true_eq, List.all_eq_true]
  constructor
  · intro h1 f hf
    obtain ⟨i, hi, rfl⟩ := List.mem_iff_getElem.mp (mem_sortI.mpr hf)
    by_cases e : i = r.length - 1
    · subst e; exact h1
    · have := List.pairwise_iff_getElem.mp hs i (r.length - 1) hi (by omega) (by omega)
      exact Int.le_trans this h1
  · intro h1
    exact h1 _ (mem_sortI.mp (List.getElem_mem _))
theorem kept_min {r : List Int} (h : 1 ≤ r.length) (T : Int) : decide (T < keptI r 1 false) = r.all fun f => decide (T < f) := by
  have hl : (sortI r).length = r.length := sortI_len r
  have hs := sortI_sorted r
  have hd : (sortI r).take 1 = [(sortI r)[0]'(by omega)] := by
    rw [List.take_one, List.head?_eq_getElem?, List.getElem?_eq_getElem (by omega)]
    rfl
  rw [Bool.eq_iff_iff]
  simp only [keptI, Bool.false_eq_true, if_false, hd, List.sum_cons, List.sum_nil, Int.add_zero, decide_eq_true_eq, List.all_eq_true]
  constructor
  · intro h1 f hf
    obtain ⟨i, hi, rfl⟩ := List.mem_iff_getElem.mp (mem_sortI.mpr hf)
    by_cases e : i = 0
    · subst e; exact h1
    · have := List.pairwise_iff_getElem.mp hs 0 i (by omega) hi (by omega)
      exact Int.lt_of_lt_of_le h1 this
  · intro h1
    exact h1 _ (mem_sortI.mp (List.getElem_mem _))
theorem comp_pairs {i j : Nat} {cond : MT} {ρ : Rho} {st : Sto} (p : Int → Bool) (hc : ∀ q : Int × Int, cond ((ρ.set i (some (.int q.1))).set j (some (.int q.2))) st = .ok (p q.1) st) (hj : j < ρ.length) (bk : List (Int × Int)) :
    compLoop (Tg.tup [i, j]) cond (mVar j) none ρ (bk.map pI) [] st = .ok (((bk.filter fun q => p q.1).map (·.2)).map Val.int) st := by
  refine (comp_sift none trivial (fun v => match v with | .tup [.int a, _] => p a | _ => false) (fun v => match v with | .tup [_, u] => u | v => v) (bk.map pI) [] fun v hv => ?_).trans ?_
  · obtain ⟨q, _, rfl⟩ := List.mem_map.mp hv
    refine ⟨_, rfl, hc q, fun _ => ?_⟩
    simp [hj]
  · rw [List.nil_append, List.filter_map, List.map_map, List.map_map]
    rfl
theorem sum_ints (l : List Int) (st : Sto) : sumG (.lst (l.map Val.int)) st = some (.int l.sum) := by simp [sumG, seqOf]
theorem neF_int {i j : Int} {st : Sto} : neF (.int i) (.int j) st = .ok (.bl (!decide (i = j))) st := by
  rw [neF_nb rfl rfl (by simp [Val.dep]) (by simp [Val.dep])]
  congr 3
  rw [decide_eq_decide]
  simp
end DL

namespace DL
open PySem PySem.Spec PyProof.Rows L2
/-! ### totals -/
def addI (bk : List (Int × Int)) (t n : Int) : List (Int × Int) := putI bk t ((getI bk t).getD 0 + n)
def oneB (die : List Int) (t n : Int) (later : List (Int × Int)) : List (Int × Int) := die.foldl (fun l f => addI l (t + f) n) later
def stepB (bk : List (Int × Int)) (die : List Int) : List (Int × Int) := bk.foldl (fun later p => oneB die p.1 ((getI bk p.1).getD 0) later) []
def totB (ds : List (List Int)) : List (Int × Int) := ds.foldl stepB [(0, 1)]
def stepS (S : List Int) (die : List Int) : List Int := S.flatMap fun t => die.map fun f => t + f
def totS (ds : List (List Int)) : List Int := ds.foldl stepS [0]
theorem oneB_len (die : List Int) (t n : Int) : ∀ later : List (Int × Int), (oneB die t n later).length ≤ later.length + die.length := by
  unfold oneB
  induction die with
  | nil => intro l; simp
  | cons f die ih =>
    intro l
    have h1 := ih (addI l (t + f) n)
    have h2 : (addI l (t + f) n).length ≤ l.length + 1 := putI_len _ _ _
    simp only [List.foldl_cons, List.length_cons]
    omega
theorem bk_one (die : List Int) (t : Int) (n : Nat) (hn : 0 < n) : ∀ {later : List (Int × Int)} {L : List Int}, Bk later L → Bk (oneB die t n later) ((die.flatMap fun f => List.replicate n (t + f)) ++ L) := by
  unfold oneB
  induction die with
  | nil => intro later L h; exact h
  | cons f die ih =>
    intro later L h
    refine (ih (h.put (t + f) n hn)).perm ?_
    rw [List.flatMap_cons, List.append_assoc]
    refine List.perm_iff_count.mpr fun u => ?_
    simp only [List.count_append]
    omega
theorem count_one (die : List Int) (t u : Int) (n : Nat) : (die.flatMap fun f => List.replicate n (t + f)).count u = n * (die.map fun f => t + f).count u := by
  induction die with
  | nil => simp
  | cons f die ih =>
    rw [List.flatMap_cons, List.count_append, ih, List.map_cons, List.count_cons, List.count_replicate, Nat.mul_add]
    by_cases e : t + f = u
    · simp [e]
      omega
    · simp [e]
theorem count_step (S : List Int) (die : List Int) (u : Int) : (stepS S die).count u = (S.map fun t => (die.map fun f => t + f).count u).sum := by
  unfold stepS
  induction S with
  | nil => simp
  | cons t S ih => rw [List.flatMap_cons, List.count_append, ih]; simp
theorem sum_split (g : Int → Nat) (t : Int) : ∀ S : List Int, (S.map g).sum = S.count t * g t + ((S.filter fun u => decide (u ≠ t)).map g).sum
  | [] => by simp
  | u :: S => by
    have ih := sum_split g t S
    by_cases e : u = t
    · subst e
      simp [List.count_cons, List.filter_cons, ih, Nat.add_mul]
      omega
    · simp [List.count_cons, List.filter_cons, e, ih]
      omega
theorem bk_steps (die : List Int) (W : List (Int × Int)) : ∀ {bk : List (Int × Int)} {S later L : _}, Bk bk S → Bk later L → (∀ p ∈ bk, (getI W p.1).getD 0 = p.2) → Bk (bk.foldl (fun later p => oneB die p.1 ((getI W p.1).getD 0) later) later) (stepS S die ++ L)
  | [], S, later, L, h, k, _ => by
    have : S = [] := by
      cases S with
      | nil => rfl
      | cons t S =>
        have := h.get t
        simp [getI] at this
    subst this
    exact k
  | p :: bk, S, later, L, h, k, hw => by
    obtain ⟨h1, h2⟩ := h.rest
    have hc : 0 < S.count p.1 := by
      have := h.get p.1
      rw [getI_cons, if_pos rfl] at this
      split at this
      · cases this
      · omega
    have e := hw p List.mem_cons_self
    rw [List.foldl_cons, e, h1]
    refine (bk_steps die W h2 (bk_one die p.1 (S.count p.1) hc k) fun q hq => hw q (List.mem_cons_of_mem _ hq)).perm ?_
    refine List.perm_iff_count.mpr fun u => ?_
    simp only [List.count_append, count_step, count_one, sum_split (fun t => (die.map fun f => t + f).count u) p.1 S]
    omega
theorem nd_get : ∀ {bk : List (Int × Int)}, (bk.map (·.1)).Nodup → ∀ p ∈ bk, getI bk p.1 = some p.2
  | q :: bk, h, p, hp => by
    have hn := List.nodup_cons.mp (show (q.1 :: bk.map (·.1)).Nodup from h)
    rw [getI_cons]
    rcases List.mem_cons.mp hp with rfl | hp
    · rw [if_pos rfl]
    · rw [if_neg (by
        intro e
        exact hn.1 (by rw [e]; exact List.mem_map_of_mem hp))]
      exact nd_get hn.2 p hp
theorem bk_step {bk : List (Int × Int)} {S : List Int} (h : Bk bk S) (die : List Int) : Bk (stepB bk die) (stepS S die) := by
  have := bk_steps die bk h Bk.nil fun p hp => by rw [nd_get h.nd p hp]; rfl
  rwa [List.append_nil] at this
theorem bk_tots : ∀ (ds : List (List Int)) {bk : List (Int × Int)} {S : List Int}, Bk bk S → Bk (ds.foldl stepB bk) (ds.foldl stepS S)
  | [], _, _, h => h
  | d :: ds, _, _, h => bk_tots ds (bk_step h d)
theorem bk_tot (ds : List (List Int)) : Bk (totB ds) (totS ds) := bk_tots ds ⟨by simp, fun t => by
  rw [getI_cons]
  by_cases e : (0 : Int) = t
  · simp [← e]
  · simp [e, getI, List.count_cons]⟩
theorem stepB_len (die : List Int) (W : List (Int × Int)) : ∀ (bk later : List (Int × Int)), (bk.foldl (fun later p => oneB die p.1 ((getI W p.1).getD 0) later) later).length ≤ later.length + bk.length * die.length
  | [], later => by simp
  | p :: bk, later => by
    have h1 := stepB_len die W bk (oneB die p.1 ((getI W p.1).getD 0) later)
    have h2 := oneB_len die p.1 ((getI W p.1).getD 0) later
    simp only [List.foldl_cons, List.length_cons, Nat.succ_mul]
    omega
theorem nodup_of_map {α β : Type} {f : α → β} {l : List α} (h : (l.map f).Nodup) : l.Nodup := (List.pairwise_map.mp h).imp fun hne e => hne (congrArg f e)
/-- books of the same are told alike -/
theorem bk_sort {b1 b2 : List (Int × Int)} {S1 S2 : List Int} (h1 : Bk b1 S1) (h2 : Bk b2 S2) (p : S1.Perm S2) : sortP b1 = sortP b2 := by
  have h2 := h2.perm p.symm
  have hp : b1.Perm b2 := by
    refine (List.perm_ext_iff_of_nodup ?_ ?_).mpr fun q => ?_
    · exact nodup_of_map h1.nd
    · exact nodup_of_map h2.nd
    · have key : ∀ {b : List (Int × Int)}, (b.map (·.1)).Nodup → (q ∈ b ↔ getI b q.1 = some q.2) := fun {b} hn => ⟨nd_get hn q, fun e => by
        have := getI_mem.mp (show (getI b q.1).isSome = true by rw [e]; rfl)
        obtain ⟨r, hr, e2⟩ := List.mem_map.mp this
        have e3 := nd_get hn r hr
        rw [e2, e] at e3
        have e4 : r = q := Prod.ext e2 (Option.some.inj e3).symm
        rw [← e4]
        exact hr⟩
      rw [key h1.nd, key h2.nd, h1.get, h2.get]
  have srt : ∀ b : List (Int × Int), (sortP b).Pairwise fun p q => p.1 < q.1 ∨ (p.1 = q.1 ∧ p.2 ≤ q.2) := fun b => by
    have := List.pairwise_mergeSort (le := fun p q : Int × Int => decide (p.1 < q.1 ∨ (p.1 = q.1 ∧ p.2 ≤ q.2))) (by intro a b c; simp; omega) (by intro a b; simp; omega) b
    unfold sortP
    simpa using this
  refine List.Perm.eq_of_pairwise (le := fun p q : Int × Int => p.1 < q.1 ∨ (p.1 = q.1 ∧ p.2 ≤ q.2)) (fun a b _ _ h1 h2 => Prod.ext (by omega) (by omega)) (srt b1) (srt b2) (((sortP_perm b1).trans hp).trans (sortP_perm b2).symm)
end DL

namespace DL
open PySem PySem.Spec PyProof.Rows L2
def P_totals_of : List Val → Out
  | [v] => match diceOf v with
    | some ds => .val (.dic (toK (totB ds)))
    | none => .no
  | _ => .no
abbrev F_totals_of : FV := pureF P_totals_of
def P_totals : List Val → Out
  | [v] => if saneDice v = true then (match diceOf v with
    | none => .err "NoDice"
    | some ds => .val (.lst ((sortP (totB ds)).map pI))) else .no
  | _ => .no
abbrev F_totals : FV := pureF P_totals
/-- what is read as a book -/
def DIs (v : Val) (bk : List (Int × Int)) (st : Sto) : Prop := v = .dic (toK bk) ∨ ∃ l, v = .ref l ∧ st[l]? = some (.dic (toK bk))
theorem ref_book {P : List Val → Out} {B : FV} (h : ∀ args st, P args = .no ∨ ∃ bk v g, P args = .val (.dic (toK bk)) ∧ B args st = .ok v (st ++ g) ∧ (v = .dic (toK bk) ∨ ∃ l, v = .ref l ∧ st.length ≤ l ∧ (st ++ g)[l]? = some (.dic (toK bk)))) : Refines (pureF P) B := fun args st k1 k2 => by
  rcases h args st with e | ⟨bk, v, g, e, b, hv⟩
  · simp only [pureF, e, Out.res]
  · simp only [pureF, e, Out.res]
    refine ⟨v, _, b, Nat.le_refl _, ⟨g, rfl⟩, fun c h => .inl h, ?_⟩
    rcases hv with rfl | ⟨l, rfl, hl, hc⟩
    · exact .inl ⟨rfl, .dic _⟩
    · exact .inr ⟨l, _, rfl, hl, hc, rfl, rfl, trivial⟩
theorem keys_toK (bk : List (Int × Int)) : (keysW (toK bk)).items = (bk.map (·.1)).map Val.int := by simp [keysW, keyV]
theorem get_at {bv : Val} {bk : List (Int × Int)} {t n : Int} {st : Sto} (h : dictOf bv st = some (toK bk)) (hg : getI bk t = some n) : dgetF bv (.int t) st = .ok (.int n) st := by
  unfold dgetF
  rw [h]
  simp only [keyD, valV_toK, hg]
  rfl
end DL

namespace DL
open PySem PySem.Spec PyProof.Rows L2
/-! ### sums over what a book counts -/
theorem sum_splitI (g : Int → Int) (t : Int) : ∀ S : List Int, (S.map g).sum = S.count t * g t + ((S.filter fun u => decide (u ≠ t)).map g).sum
  | [] => by simp
  | u :: S => by
    have ih := sum_splitI g t S
    by_cases e : u = t
    · subst e
      simp [List.count_cons, List.filter_cons, ih, Int.add_mul]
      omega
    · simp [List.count_cons, List.filter_cons, e, ih]
      omega
theorem Bk.sumF : ∀ {bk : List (Int × Int)} {S : List Int}, Bk bk S → ∀ f : Int → Int, (bk.map fun p => f p.1 * p.2).sum = (S.map f).sum
  | [], S, h, f => by
    have : S = [] := by
      cases S with
      | nil => rfl
      | cons t S =>
        have := h.get t
        simp [getI] at this
    subst this
    rfl
  | q :: bk, S, h, f => by
    obtain ⟨h1, h2⟩ := h.rest
    have ih := Bk.sumF h2 f
    rw [List.map_cons, List.sum_cons, ih, sum_splitI f q.1 S, h1, Int.mul_comm]
theorem perm_map_sum {S T : List Int} (h : S.Perm T) (f : Int → Int) : (S.map f).sum = (T.map f).sum := perm_sum (h.map f)
/-! ### what totals are -/
theorem totS_cons (d : List Int) (ds : List (List Int)) : ∀ S, ds.foldl stepS (stepS S d) = (d :: ds).foldl stepS S := fun S => rfl
theorem perm_step {S T : List Int} (h : S.Perm T) (d : List Int) : (stepS S d).Perm (stepS T d) := h.flatMap_right _
theorem perm_steps : ∀ (ds : List (List Int)) {S T : List Int}, S.Perm T → (ds.foldl stepS S).Perm (ds.foldl stepS T)
  | [], _, _, h => h
  | d :: ds, _, _, h => perm_steps ds (perm_step h d)
theorem flatMap_comm_perm {α β γ : Type} (f : α → β → γ) : ∀ (l : List α) (m : List β), (l.flatMap fun a => m.map fun b => f a b).Perm (m.flatMap fun b => l.map fun a => f a b)
  | [], m => by
    have : (m.flatMap fun b => ([] : List α).map fun a => f a b) = [] := by
      induction m with
      | nil => rfl
      | cons b m ih => simp [List.flatMap_cons]
    rw [this]
    exact .refl _
  | a :: l, m => by
    rw [List.flatMap_cons]
    have ih := flatMap_comm_perm f l m
    have : ∀ m : List β, ((m.map fun b => f a b) ++ m.flatMap fun b => l.map fun a => f a b).Perm (m.flatMap fun b => (a :: l).map fun a => f a b) := by
      intro m
      induction m with
      | nil => exact .refl _
      | cons b m ih =>
        simp only [List.map_cons, List.flatMap_cons, List.cons_append]
        refine List.Perm.cons _ ?_
        refine List.Perm.trans ?_ (ih.append_left (l.map fun a => f a b))
        rw [← List.append_assoc, ← List.append_assoc]
        exact (List.perm_append_comm).append_right _
    exact (ih.append_left _).trans (this m)
/-- one die behind the other, or the other way about -/
theorem step_comm (S : List Int) (c d : List Int) : (stepS (stepS S c) d).Perm (stepS (stepS S d) c) := by
  unfold stepS
  rw [List.flatMap_assoc, List.flatMap_assoc]
  induction S with
  | nil => exact .refl _
  | cons t S ih =>
    rw [List.flatMap_cons, List.flatMap_cons]
    refine List.Perm.append ?_ ih
    rw [List.flatMap_map, List.flatMap_map]
    refine (flatMap_comm_perm (fun a b => t + a + b) c d).trans ?_
    have : (d.flatMap fun b => c.map fun a => t + a + b) = d.flatMap fun b => c.map fun a => t + b + a := by
      congr 1
      funext b
      congr 1
      funext a
      omega
    rw [this]
theorem tot_perm {ds es : List (List Int)} (h : ds.Perm es) : ∀ S : List Int, (ds.foldl stepS S).Perm (es.foldl stepS S) := by
  induction h with
  | nil => intro S; exact .refl _
  | cons d _ ih => intro S; exact ih _
  | swap c d l => intro S; exact perm_steps l (step_comm S d c)
  | trans _ _ h1 h2 => intro S; exact (h1 S).trans (h2 S)
/-- dice, and others behind them -/
theorem totS_append (ds es : List (List Int)) : totS (ds ++ es) = es.foldl stepS (totS ds) := by
  unfold totS
  rw [List.foldl_append]
def addS (S T : List Int) : List Int := S.flatMap fun a => T.map fun b => a + b
theorem addS_step (S T d : List Int) : addS S (stepS T d) = stepS (addS S T) d := by
  unfold addS stepS
  rw [List.flatMap_assoc]
  congr 1
  funext a
  rw [List.map_flatMap, List.flatMap_map]
  congr 1
  funext b
  rw [List.map_map]
  congr 1
  funext f
  simp only [Function.comp]
  omega
theorem addS_fold : ∀ (es : List (List Int)) (S T : List Int), addS S (es.foldl stepS T) = es.foldl stepS (addS S T)
  | [], S, T => rfl
  | d :: es, S, T => by rw [List.foldl_cons, List.foldl_cons, addS_fold es S (stepS T d), addS_step]
theorem addS_zero (S : List Int) : addS S [0] = S := by
  unfold addS
  induction S with
  | nil => rfl
  | cons a S ih => simp [List.flatMap_cons]
theorem totS_addS (ds es : List (List Int)) : totS (ds ++ es) = addS (totS ds) (totS es) := by
  rw [totS_append]
  show _ = addS (totS ds) (es.foldl stepS [0])
  rw [addS_fold, addS_zero]
theorem totS_one (d : List Int) : totS [d] = d := by simp [totS, stepS]
theorem totS_two (c d : List Int) : totS [c, d] = addS c d := by
  have := totS_addS [c] [d]
  rwa [totS_one, totS_one] at this
theorem step_len (S d : List Int) : (stepS S d).length = S.length * d.length := by
  unfold stepS
  induction S with
  | nil => simp
  | cons t S ih => rw [List.flatMap_cons, List.length_append, ih, List.length_map, List.length_cons, Nat.succ_mul]; omega
theorem steps_len : ∀ (ds : List (List Int)) (S : List Int), (ds.foldl stepS S).length = S.length * prodN List.length ds
  | [], S => by simp [prodN]
  | d :: ds, S => by rw [List.foldl_cons, steps_len ds, step_len, prodN, Nat.mul_assoc]
theorem totS_len (ds : List (List Int)) : (totS ds).length = prodN List.length ds := by
  unfold totS
  rw [steps_len]
  simp
/-! sums of these -/
theorem addS_map_sum (f g h : Int → Int) (S T : List Int) (e : ∀ a b, f (a + b) = g a + h b) : ((addS S T).map f).sum = (S.map g).sum * T.length + S.length * (T.map h).sum := by
  unfold addS
  induction S with
  | nil => simp
  | cons a S ih =>
    rw [List.flatMap_cons, List.map_append, List.sum_append, ih, List.map_map]
    have : ∀ T : List Int, (T.map (f ∘ fun b => a + b)).sum = T.length * g a + (T.map h).sum := by
      intro T
      induction T with
      | nil => simp
      | cons b T ih =>
        simp only [List.map_cons, List.sum_cons, ih, Function.comp, e, List.length_cons, Int.natCast_add, Int.add_mul]
        omega
    rw [this]
    simp only [List.map_cons, List.sum_cons, List.length_cons, Int.natCast_add, Int.add_mul, Int.one_mul]
    have e1 : (T.length : Int) * g a = g a * T.length := Int.mul_comm _ _
    have e2 : ((1 : Nat) : Int) = 1 := rfl
    rw [e1, e2]
    omega
def sumI (S : List Int) : Int := S.sum
def sqI (S : List Int) : Int := (S.map fun t => t * t).sum
theorem addS_sum (S T : List Int) : (addS S T).sum = S.sum * T.length + S.length * T.sum := by
  have := addS_map_sum id id id S T fun _ _ => rfl
  simpa using this
theorem addS_len (S T : List Int) : (addS S T).length = S.length * T.length := step_len S T
theorem addS_sq (S T : List Int) : sqI (addS S T) = sqI S * T.length + 2 * (S.sum * T.sum) + S.length * sqI T := by
  unfold addS
  induction S with
  | nil => simp [sqI]
  | cons a S ih =>
    unfold sqI at ih ⊢
    rw [List.flatMap_cons, List.map_append, List.sum_append, ih, List.map_map]
    have : ∀ T : List Int, (T.map ((fun t => t * t) ∘ fun b => a + b)).sum = T.length * (a * a) + 2 * (a * T.sum) + (T.map fun t => t * t).sum := by
      intro T
      induction T with
      | nil => simp
      | cons b T ih =>
        simp only [List.map_cons, List.sum_cons, ih, Function.comp, List.length_cons, Int.natCast_add, Int.add_mul, Int.mul_add]
        have e2 : ((1 : Nat) : Int) = 1 := rfl
        rw [e2, Int.one_mul, Int.mul_comm b a]
        omega
    rw [this]
    simp only [List.map_cons, List.sum_cons, List.length_cons, Int.natCast_add, Int.add_mul, Int.one_mul, Int.mul_add]
    have e1 : (T.length : Int) * (a * a) = a * a * T.length := Int.mul_comm _ _
    have e2 : ((1 : Nat) : Int) = 1 := rfl
    rw [e1, e2]
    omega
/-- (sum of t - s, squared) -/
theorem sq_off (s : Int) : ∀ S : List Int, 0 ≤ S.length * (s * s) - 2 * (s * S.sum) + sqI S
  | [] => by simp [sqI]
  | t :: S => by
    have ih := sq_off s S
    have h : 0 ≤ (s - t) * (s - t) := by
      rcases Int.le_total 0 (s - t) with h | h
      · exact Int.mul_nonneg h h
      · exact Int.mul_nonneg_of_nonpos_of_nonpos h h
    have e : (s - t) * (s - t) = s * s - 2 * (s * t) + t * t := by
      rw [Int.sub_mul, Int.mul_sub, Int.mul_sub, Int.mul_comm t s]
      omega
    rw [e] at h
    unfold sqI at ih ⊢
    simp only [List.map_cons, List.sum_cons, List.length_cons, Int.natCast_add, Int.add_mul, Int.mul_add]
    have e2 : ((1 : Nat) : Int) = 1 := rfl
    rw [e2, Int.one_mul]
    omega
theorem sq_ge : ∀ S : List Int, S.sum * S.sum ≤ sqI S * S.length
  | [] => by simp [sqI]
  | t :: S => by
    have ih := sq_ge S
    have h := sq_off t S
    unfold sqI at ih h ⊢
    simp only [List.map_cons, List.sum_cons, List.length_cons, Int.natCast_add, Int.add_mul, Int.mul_add]
    have e2 : ((1 : Nat) : Int) = 1 := rfl
    have e3 : S.sum * t = t * S.sum := Int.mul_comm _ _
    have e4 : t * t * (S.length : Int) = S.length * (t * t) := Int.mul_comm _ _
    rw [e2, Int.mul_one, Int.mul_one, e3, e4]
    omega
theorem sum_nonneg {S : List Int} (h : ∀ t ∈ S, 0 ≤ t) : 0 ≤ S.sum := by
  induction S with
  | nil => exact Int.le_refl _
  | cons t S ih =>
    have := ih fun u hu => h u (List.mem_cons_of_mem _ hu)
    have := h t List.mem_cons_self
    rw [List.sum_cons]
    omega
/-! ### fractions -/
def fracI (u d : Nat) : List Int := [((u / u.gcd d : Nat) : Int), ((d / u.gcd d : Nat) : Int)]
theorem frac_spec {u d : Nat} (hd : 0 < d) : ∃ p q g : Nat, fracI u d = [(p : Int), (q : Int)] ∧ 0 < g ∧ 0 < q ∧ p * g = u ∧ q * g = d ∧ Nat.gcd p q = 1 := by
  have hg : 0 < u.gcd d := Nat.gcd_pos_of_pos_right _ hd
  refine ⟨u / u.gcd d, d / u.gcd d, u.gcd d, rfl, hg, ?_, Nat.div_mul_cancel (Nat.gcd_dvd_left _ _), Nat.div_mul_cancel (Nat.gcd_dvd_right _ _), Nat.gcd_div_gcd_div_gcd_of_pos_right hd⟩
  exact Nat.div_pos (Nat.le_of_dvd hd (Nat.gcd_dvd_right _ _)) hg
theorem cross_eq {p q p' q' : Nat} (hq : 0 < q) (hq' : 0 < q') (h1 : Nat.gcd p q = 1) (h2 : Nat.gcd p' q' = 1) (h : p * q' = p' * q) : p = p' ∧ q = q' := by
  have d1 : q ∣ q' := by
    have : q ∣ p * q' := ⟨p', by rw [h, Nat.mul_comm]⟩
    exact Nat.Coprime.dvd_of_dvd_mul_left (show Nat.gcd q p = 1 by rw [Nat.gcd_comm]; exact h1) this
  have d2 : q' ∣ q := by
    have : q' ∣ p' * q := ⟨p, by rw [← h, Nat.mul_comm]⟩
    exact Nat.Coprime.dvd_of_dvd_mul_left (show Nat.gcd q' p' = 1 by rw [Nat.gcd_comm]; exact h2) this
  have e := Nat.dvd_antisymm d1 d2
  subst e
  exact ⟨Nat.eq_of_mul_eq_mul_right hq h, rfl⟩
theorem frac_unique {u d p q : Nat} (hd : 0 < d) (hq : 0 < q) (hg : Nat.gcd p q = 1) (h : p * d = u * q) : fracI u d = [(p : Int), (q : Int)] := by
  obtain ⟨p', q', g, e, hg', hq', e1, e2, e3⟩ := frac_spec (u := u) hd
  rw [e]
  have : p' * q = p * q' := by
    refine Nat.eq_of_mul_eq_mul_right hg' ?_
    grind
  obtain ⟨rfl, rfl⟩ := cross_eq hq' hq e3 hg this
  rfl
theorem frac_eq {u d u' d' : Nat} (hd : 0 < d) (hd' : 0 < d') (h : u * d' = u' * d) : fracI u d = fracI u' d' := by
  obtain ⟨p, q, g, e, hg, hq, e1, e2, e3⟩ := frac_spec (u := u') hd'
  rw [e]
  refine frac_unique hd hq e3 ?_
  refine Nat.eq_of_mul_eq_mul_right hg ?_
  grind
theorem frac_zero {d : Nat} (hd : 0 < d) : fracI 0 d = [0, 1] := frac_unique (p := 0) (q := 1) hd (by decide) (by decide) (by simp)
theorem frac_self {d : Nat} (hd : 0 < d) : fracI d d = [1, 1] := frac_unique (p := 1) (q := 1) hd (by decide) (by decide) (by simp)
/-! ### sorted lists without repetition -/
def uniq : List Int → List Int
  | [] => []
  | x :: S => if x ∈ uniq S then uniq S else x :: uniq S
theorem mem_uniq {x : Int} : ∀ {S : List Int}, x ∈ uniq S ↔ x ∈ S
  | [] => .rfl
  | y :: S => by
    rw [uniq]
    have ih := @mem_uniq x S
    by_cases h : y ∈ uniq S
    · rw [if_pos h, ih, List.mem_cons]
      exact ⟨.inr, fun h' => h'.elim (fun e => by rw [e]; exact mem_uniq.mp h) id⟩
    · rw [if_neg h, List.mem_cons, List.mem_cons, ih]
theorem nd_uniq : ∀ S : List Int, (uniq S).Nodup
  | [] => .nil
  | y :: S => by
    rw [uniq]
    by_cases h : y ∈ uniq S
    · rw [if_pos h]; exact nd_uniq S
    · rw [if_neg h]; exact List.nodup_cons.mpr ⟨h, nd_uniq S⟩
def keysI (S : List Int) : List Int := sortI (uniq S)
theorem mem_keys {x : Int} {S : List Int} : x ∈ keysI S ↔ x ∈ S := by rw [keysI, mem_sortI, mem_uniq]
theorem lt_of_le_nd {l : List Int} (h : l.Pairwise (· ≤ ·)) (n : l.Nodup) : l.Pairwise (· < ·) := by
  have := List.pairwise_and_iff.mpr ⟨h, n⟩
  exact this.imp fun h => by omega
theorem keys_lt (S : List Int) : (keysI S).Pairwise (· < ·) := lt_of_le_nd (sortI_sorted _) ((sortI_perm _).nodup_iff.mpr (nd_uniq S))
theorem sorted_ext {l m : List Int} (h1 : l.Pairwise (· < ·)) (h2 : m.Pairwise (· < ·)) (h : ∀ x, x ∈ l ↔ x ∈ m) : l = m := by
  have n1 : l.Nodup := h1.imp fun h => by omega
  have n2 : m.Nodup := h2.imp fun h => by omega
  exact List.Perm.eq_of_pairwise (le := fun a b : Int => a < b) (fun a b _ _ h1 h2 => by omega) h1 h2 ((List.perm_ext_iff_of_nodup n1 n2).mpr h)
theorem keys_perm {S T : List Int} (h : S.Perm T) : keysI S = keysI T := sorted_ext (keys_lt S) (keys_lt T) fun x => by rw [mem_keys, mem_keys, h.mem_iff]
theorem Bk.mem {bk : List (Int × Int)} {S : List Int} (h : Bk bk S) (t : Int) : t ∈ bk.map (·.1) ↔ t ∈ S := by
  rw [← getI_mem, h.get t]
  by_cases e : S.count t = 0
  · simp [e, List.count_eq_zero.mp e]
  · have : t ∈ S := by
      rcases Classical.em (t ∈ S) with h | h
      · exact h
      · exact absurd (List.count_eq_zero.mpr h) e
    simp [e, this]
theorem Bk.keys {bk : List (Int × Int)} {S : List Int} (h : Bk bk S) : sortI (bk.map (·.1)) = keysI S :=
  sorted_ext (lt_of_le_nd (sortI_sorted _) ((sortI_perm _).nodup_iff.mpr h.nd)) (keys_lt S) fun x => by rw [mem_sortI, h.mem, mem_keys]
theorem sortI_permEq {S T : List Int} (h : S.Perm T) : sortI S = sortI T :=
  List.Perm.eq_of_pairwise (le := fun a b : Int => a ≤ b) (fun a b _ _ h1 h2 => by omega) (sortI_sorted S) (sortI_sorted T) (((sortI_perm S).trans h).trans (sortI_perm T).symm)
theorem Bk.get0 {bk : List (Int × Int)} {S : List Int} (h : Bk bk S) (t : Int) : (getI bk t).getD 0 = S.count t := by
  rw [h.get t]
  by_cases e : S.count t = 0
  · simp [e]
  · simp [e]
/-! ### the middle -/
def cumI (S : List Int) (k : Int) : Nat := (S.filter fun t => decide (t ≤ k)).length
def midI (S : List Int) : Int := ((keysI S).find? fun k => decide (S.length ≤ 2 * cumI S k)).getD 0
theorem cum_perm {S T : List Int} (h : S.Perm T) (k : Int) : cumI S k = cumI T k := (h.filter _).length_eq
theorem mid_perm {S T : List Int} (h : S.Perm T) : midI S = midI T := by
  unfold midI
  rw [keys_perm h, h.length_eq]
  congr 2
  funext k
  rw [cum_perm h]
/-- up to a key: those up to the one ahead, and it itself -/
theorem cum_step (S : List Int) (a b : List Int) (k : Int) (h : keysI S = a ++ k :: b) : cumI S k = (a.map fun j => S.count j).sum + S.count k := by
  have key : ∀ (ks S : List Int), ks.Nodup → (∀ x ∈ S, x ∈ ks) → S.length = (ks.map fun j => S.count j).sum := by
    intro ks
    induction ks with
    | nil =>
      intro S _ h
      cases S with
      | nil => rfl
      | cons x S => exact nomatch h x List.mem_cons_self
    | cons j ks ih =>
      intro S hn h
      have hn' := List.nodup_cons.mp hn
      have h1 := ih (S.filter fun u => decide (u ≠ j)) hn'.2 fun x hx => by
        rw [List.mem_filter] at hx
        have := h x hx.1
        rcases List.mem_cons.mp this with e | e
        · simp [e] at hx
        · exact e
      have h2 := sum_splitI (fun _ => 1) j S
      have h3 : ∀ T : List Int, (T.map fun _ => (1 : Int)).sum = T.length := by
        intro T
        induction T with
        | nil => rfl
        | cons t T ih => simp [ih]; omega
      rw [h3, h3] at h2
      have h4 : (ks.map fun i => (S.filter fun u => decide (u ≠ j)).count i) = ks.map fun i => S.count i := by
        refine List.map_congr_left fun i hi => ?_
        have : i ≠ j := by rintro rfl; exact hn'.1 hi
        exact List.count_filter (by simp [this])
      rw [h4] at h1
      rw [List.map_cons, List.sum_cons]
      omega
  have hs := keys_lt S
  rw [h] at hs
  have p := List.pairwise_append.mp hs
  have hk : ∀ x ∈ S, x ≤ k ↔ x ∈ a ++ [k] := fun x hx => by
    have hx' : x ∈ a ++ k :: b := by rw [← h]; exact mem_keys.mpr hx
    constructor
    · intro hle
      rcases List.mem_append.mp hx' with q | q
      · exact List.mem_append.mpr (.inl q)
      · rcases List.mem_cons.mp q with rfl | q
        · simp
        · have := (List.pairwise_cons.mp p.2.1).1 x q
          omega
    · intro q
      rcases List.mem_append.mp q with q | q
      · have := p.2.2 x q k List.mem_cons_self
        omega
      · have : x = k := by simpa using q
        omega
  have nd : (a ++ [k]).Nodup := by
    have : (a ++ k :: b).Nodup := by rw [← h]; exact (keys_lt S).imp fun h => by omega
    have e : a ++ k :: b = (a ++ [k]) ++ b := by simp
    rw [e] at this
    exact (List.nodup_append.mp this).1
  have := key (a ++ [k]) (S.filter fun t => decide (t ≤ k)) nd fun x hx => by
    rw [List.mem_filter] at hx
    exact (hk x hx.1).mp (by simpa using hx.2)
  unfold cumI
  rw [this, List.map_append, List.sum_append]
  have e1 : ∀ j ∈ a ++ [k], (S.filter fun t => decide (t ≤ k)).count j = S.count j := fun j hj => by
    refine List.count_filter ?_
    rcases List.mem_append.mp hj with q | q
    · have := p.2.2 j q k List.mem_cons_self
      simp; omega
    · have : j = k := by simpa using q
      simp; omega
  have e2 : (a.map fun j => (S.filter fun t => decide (t ≤ k)).count j) = a.map fun j => S.count j := List.map_congr_left fun j hj => e1 j (List.mem_append.mpr (.inl hj))
  rw [e2]
  simp [e1 k (by simp)]
theorem keys_map_mono {f : Int → Int} (hf : ∀ a b, a < b → f a < f b) (S : List Int) : keysI (S.map f) = (keysI S).map f := by
  refine sorted_ext (keys_lt _) ?_ fun x => ?_
  · rw [List.pairwise_map]
    exact (keys_lt S).imp fun h => hf _ _ h
  · simp only [mem_keys, List.mem_map]
theorem cum_map_mono {f : Int → Int} (hf : ∀ a b, a < b → f a < f b) (S : List Int) (k : Int) : cumI (S.map f) (f k) = cumI S k := by
  unfold cumI
  rw [List.filter_map, List.length_map]
  congr 1
  refine List.filter_congr fun t _ => ?_
  simp only [Function.comp]
  rw [decide_eq_decide]
  constructor
  · intro h
    rcases Int.lt_or_le k t with h' | h'
    · have := hf _ _ h'
      omega
    · exact h'
  · intro h
    rcases Int.lt_or_eq_of_le h with h' | rfl
    · have := hf _ _ h'
      omega
    · exact Int.le_refl _
theorem cum_last {S : List Int} (k : Int) (h : ∀ x ∈ S, x ≤ k) : cumI S k = S.length := by
  unfold cumI
  rw [List.filter_eq_self.mpr fun x hx => by simpa using h x hx]
theorem mid_some {S : List Int} (h : S ≠ []) : ∃ k, ((keysI S).find? fun k => decide (S.length ≤ 2 * cumI S k)) = some k := by
  have hk : keysI S ≠ [] := fun e => by
    cases S with
    | nil => exact h rfl
    | cons x S =>
      have := (mem_keys (S := x :: S)).mpr List.mem_cons_self
      rw [e] at this
      cases this
  rw [← Option.isSome_iff_exists, List.find?_isSome]
  refine ⟨(keysI S).getLast hk, List.getLast_mem hk, ?_⟩
  have : ∀ x ∈ S, x ≤ (keysI S).getLast hk := fun x hx => by
    have hx' := mem_keys.mpr hx
    obtain ⟨i, hi, rfl⟩ := List.mem_iff_getElem.mp hx'
    rw [List.getLast_eq_getElem]
    by_cases e : i = (keysI S).length - 1
    · subst e; exact Int.le_refl _
    · have := List.pairwise_iff_getElem.mp (keys_lt S) i ((keysI S).length - 1) hi (by omega) (by omega)
      omega
  rw [cum_last _ this]
  simp
  omega
theorem mid_map_mono {f : Int → Int} (hf : ∀ a b, a < b → f a < f b) {S : List Int} (h : S ≠ []) : midI (S.map f) = f (midI S) := by
  obtain ⟨k, hk⟩ := mid_some h
  unfold midI
  rw [keys_map_mono hf, List.find?_map, List.length_map]
  have : ((fun k => decide (S.length ≤ 2 * cumI (S.map f) k)) ∘ f) = fun k => decide (S.length ≤ 2 * cumI S k) := by
    funext k
    simp only [Function.comp, cum_map_mono hf]
  rw [this, hk]
  rfl
/-! ### the likeliest -/
def mostI (S : List Int) : Nat := ((keysI S).map fun k => S.count k).foldl max 0
def likI (S : List Int) : List Int := (keysI S).filter fun k => decide (S.count k = mostI S)
theorem foldl_max_le : ∀ (l : List Nat) (m : Nat), m ≤ l.foldl max m ∧ ∀ x ∈ l, x ≤ l.foldl max m
  | [], m => ⟨Nat.le_refl _, fun _ h => nomatch h⟩
  | y :: l, m => by
    obtain ⟨h1, h2⟩ := foldl_max_le l (max m y)
    rw [List.foldl_cons]
    refine ⟨by omega, fun x hx => ?_⟩
    rcases List.mem_cons.mp hx with rfl | hx
    · omega
    · exact h2 x hx
theorem foldl_max_mem : ∀ (l : List Nat) (m : Nat), l.foldl max m = m ∨ l.foldl max m ∈ l
  | [], m => .inl rfl
  | y :: l, m => by
    rw [List.foldl_cons]
    rcases foldl_max_mem l (max m y) with h | h
    · rw [h]
      rcases Nat.le_total m y with h' | h'
      · right; rw [Nat.max_eq_right h']; exact List.mem_cons_self
      · left; exact Nat.max_eq_left h'
    · exact .inr (List.mem_cons_of_mem _ h)
theorem most_ge {S : List Int} {t : Int} (h : t ∈ S) : S.count t ≤ mostI S := (foldl_max_le _ _).2 _ (List.mem_map.mpr ⟨t, mem_keys.mpr h, rfl⟩)
theorem most_at {S : List Int} (h : S ≠ []) : ∃ t ∈ S, S.count t = mostI S := by
  rcases foldl_max_mem ((keysI S).map fun k => S.count k) 0 with e | e
  · cases S with
    | nil => exact absurd rfl h
    | cons x S =>
      have h1 := most_ge (S := x :: S) List.mem_cons_self
      have h2 : 0 < (x :: S).count x := List.count_pos_iff.mpr List.mem_cons_self
      have h3 : mostI (x :: S) = 0 := e
      omega
  · obtain ⟨t, h1, h2⟩ := List.mem_map.mp e
    exact ⟨t, mem_keys.mp h1, h2⟩
theorem most_eq {S : List Int} {m : Nat} (h1 : ∀ t ∈ S, S.count t ≤ m) (h2 : ∃ t ∈ S, S.count t = m) : mostI S = m := by
  obtain ⟨t, ht, e⟩ := h2
  obtain ⟨u, hu, e2⟩ := most_at (S := S) (by rintro rfl; cases ht)
  have := h1 u hu
  have := most_ge ht
  omega
theorem lik_lt (S : List Int) : (likI S).Pairwise (· < ·) := (keys_lt S).filter _
theorem mem_lik {S : List Int} {t : Int} : t ∈ likI S ↔ t ∈ S ∧ S.count t = mostI S := by
  rw [likI, List.mem_filter, mem_keys]
  simp
theorem most_perm {S T : List Int} (h : S.Perm T) : mostI S = mostI T := by
  unfold mostI
  rw [keys_perm h]
  congr 2
  funext k
  exact h.count_eq k
theorem lik_perm {S T : List Int} (h : S.Perm T) : likI S = likI T := sorted_ext (lik_lt S) (lik_lt T) fun x => by rw [mem_lik, mem_lik, h.mem_iff, h.count_eq, most_perm h]
theorem count_inj {f : Int → Int} (hf : ∀ a b, f a = f b → a = b) (S : List Int) (t : Int) : (S.map f).count (f t) = S.count t := by
  induction S with
  | nil => rfl
  | cons u S ih =>
    rw [List.map_cons, List.count_cons, List.count_cons, ih]
    by_cases e : u = t
    · simp [e]
    · have : f u ≠ f t := fun q => e (hf _ _ q)
      simp [e, this]
theorem most_inj {f : Int → Int} (hf : ∀ a b, f a = f b → a = b) {S : List Int} (h : S ≠ []) : mostI (S.map f) = mostI S := by
  refine most_eq (fun t ht => ?_) ?_
  · obtain ⟨u, hu, rfl⟩ := List.mem_map.mp ht
    rw [count_inj hf]
    exact most_ge hu
  · obtain ⟨t, ht, e⟩ := most_at h
    exact ⟨f t, List.mem_map_of_mem ht, by rw [count_inj hf, e]⟩
theorem mem_lik_inj {f : Int → Int} (hf : ∀ a b, f a = f b → a = b) {S : List Int} (h : S ≠ []) (x : Int) : x ∈ likI (S.map f) ↔ ∃ t ∈ likI S, f t = x := by
  rw [mem_lik, most_inj hf h]
  constructor
  · rintro ⟨h1, h2⟩
    obtain ⟨t, ht, rfl⟩ := List.mem_map.mp h1
    rw [count_inj hf] at h2
    exact ⟨t, mem_lik.mpr ⟨ht, h2⟩, rfl⟩
  · rintro ⟨t, ht, rfl⟩
    obtain ⟨h1, h2⟩ := mem_lik.mp ht
    exact ⟨List.mem_map_of_mem h1, by rw [count_inj hf, h2]⟩
/-! ### pairs counted -/
def cntP (R : Int → Int → Bool) (S T : List Int) : Nat := (S.map fun a => (T.filter (R a)).length).sum
theorem perm_sumN {l l' : List Nat} (h : l.Perm l') : l.sum = l'.sum := by
  induction h with
  | nil => rfl
  | cons x _ ih => simp [ih]
  | swap x y l => simp; omega
  | trans _ _ h1 h2 => exact h1.trans h2
theorem cnt_perm (R : Int → Int → Bool) {S S' T T' : List Int} (h1 : S.Perm S') (h2 : T.Perm T') : cntP R S T = cntP R S' T' := by
  unfold cntP
  have : (fun a => (T.filter (R a)).length) = fun a => (T'.filter (R a)).length := by
    funext a
    exact (h2.filter _).length_eq
  rw [this]
  exact perm_sumN (h1.map _)
theorem cnt_flip (R : Int → Int → Bool) (S T : List Int) : cntP R S T = cntP (fun a b => R b a) T S := by
  unfold cntP
  induction S with
  | nil => 
    induction T with
    | nil => rfl
    | cons t T ih => simp at ih ⊢; exact ih
  | cons a S ih =>
    rw [List.map_cons, List.sum_cons, ih]
    clear ih
    induction T with
    | nil => rfl
    | cons t T ih =>
      rw [List.map_cons, List.sum_cons, List.map_cons, List.sum_cons, ← ih]
      cases h : R a t <;> simp [List.filter_cons, h] <;> omega
end DL

namespace DL
open PySem PySem.Spec PyProof.Rows L2
/-! ### fractions, measures -/
def P_part : List Val → Out
  | [.int u, .int d] => if 0 ≤ u ∧ 0 < d ∧ d < 2 ^ 2000 then .val (vI (fracI u.toNat d.toNat)) else .no
  | _ => .no
abbrev F_part : FV := pureF P_part
def P_counted_all : List Val → Out
  | [v] => match diceOf v with
    | some ds => .val (vI [((totS ds).length : Int), (totS ds).sum, sqI (totS ds)])
    | none => .no
  | _ => .no
abbrev F_counted_all : FV := pureF P_counted_all
abbrev meanV (S : List Int) : Val := vI (fracI S.sum.toNat S.length)
abbrev spreadV (S : List Int) : Val := vI (fracI (sqI S * S.length - S.sum * S.sum).toNat (S.length * S.length))
/-- asked of dice -/
def P_asked (f : List (List Int) → Val) : List Val → Out
  | [v] => if saneDice v = true then (match diceOf v with
    | none => .err "NoDice"
    | some ds => .val (f ds)) else .no
  | _ => .no
abbrev F_mean : FV := pureF (P_asked fun ds => meanV (totS ds))
abbrev F_spread : FV := pureF (P_asked fun ds => spreadV (totS ds))
abbrev F_middle : FV := pureF (P_asked fun ds => .int (midI (totS ds)))
abbrev F_likeliest : FV := pureF (P_asked fun ds => .lst ((likI (totS ds)).map Val.int))
theorem asked_ok {f : List (List Int) → Val} {ds : List (List Int)} (h : diceN ds) (st : Sto) : pureF (P_asked f) [vD ds] st = .ok (f ds) st := by
  simp [pureF, P_asked, sane_vD, diceOf_vD h]
/-! bounds -/
theorem tot_in : ∀ {ds : List (List Int)} {S : List Int} {k : Int}, (∀ d ∈ ds, dieN d = true) → (∀ t ∈ S, 0 ≤ t ∧ t ≤ k) → ∀ t ∈ ds.foldl stepS S, 0 ≤ t ∧ t ≤ k + 30 * ds.length
  | [], S, k, _, h => fun t ht => by have := h t ht; simp; exact this
  | d :: ds, S, k, hd, h => fun t ht => by
    have hd1 := (dieN_iff.mp (hd d List.mem_cons_self)).2.2.1
    have := tot_in (k := k + 30) (fun x hx => hd x (List.mem_cons_of_mem _ hx)) (S := stepS S d) (fun u hu => by
      simp only [stepS, List.mem_flatMap, List.mem_map] at hu
      obtain ⟨a, ha, f, hf, rfl⟩ := hu
      have := h a ha
      have := hd1 f hf
      omega) t ht
    rw [List.length_cons]
    omega
theorem totS_in {ds : List (List Int)} (h : diceN ds) : ∀ t ∈ totS ds, 0 ≤ t ∧ t ≤ 120 := fun t ht => by
  have := tot_in (k := 0) h.2.2 (S := [0]) (fun t ht => by
    have : t = 0 := by simpa using ht
    omega) t ht
  have := h.2.1
  omega
theorem prodN_pos : ∀ {ds : List (List Int)}, (∀ d ∈ ds, dieN d = true) → 0 < prodN List.length ds ∧ prodN List.length ds ≤ 8 ^ ds.length
  | [], _ => ⟨by decide, by decide⟩
  | d :: ds, h => by
    have hd := dieN_iff.mp (h d List.mem_cons_self)
    have ih := prodN_pos (ds := ds) fun x hx => h x (List.mem_cons_of_mem _ hx)
    simp only [prodN, List.length_cons]
    refine ⟨Nat.mul_pos (by omega) ih.1, ?_⟩
    rw [Nat.pow_succ, Nat.mul_comm]
    exact Nat.mul_le_mul ih.2 hd.2.1
theorem totS_pos {ds : List (List Int)} (h : diceN ds) : 0 < (totS ds).length ∧ (totS ds).length ≤ 4096 := by
  rw [totS_len]
  have := prodN_pos h.2.2
  refine ⟨this.1, Nat.le_trans this.2 ?_⟩
  calc 8 ^ ds.length ≤ 8 ^ 4 := Nat.pow_le_pow_right (by decide) h.2.1
    _ = 4096 := by decide
theorem sum_le {f : Int → Int} {k : Int} : ∀ {S : List Int}, (∀ t ∈ S, 0 ≤ f t ∧ f t ≤ k) → 0 ≤ (S.map f).sum ∧ (S.map f).sum ≤ k * S.length
  | [], _ => by simp
  | t :: S, h => by
    have h1 := h t List.mem_cons_self
    have ih := sum_le (S := S) fun u hu => h u (List.mem_cons_of_mem _ hu)
    simp only [List.map_cons, List.sum_cons, List.length_cons]
    rw [show ((S.length + 1 : Nat) : Int) = (S.length : Int) + 1 from rfl, Int.mul_add, Int.mul_one]
    omega
theorem sum_in {S : List Int} {k : Int} (h : ∀ t ∈ S, 0 ≤ t ∧ t ≤ k) : 0 ≤ S.sum ∧ S.sum ≤ k * S.length := by
  have := sum_le (f := id) (S := S) (k := k) h
  simpa using this
theorem sq_in {S : List Int} (h : ∀ t ∈ S, 0 ≤ t ∧ t ≤ 120) : 0 ≤ sqI S ∧ sqI S ≤ 14400 * S.length := sum_le fun t ht => by
  have := h t ht
  constructor
  · exact Int.mul_nonneg (by omega) (by omega)
  · have : t * t ≤ 120 * 120 := Int.mul_le_mul (by omega) (by omega) (by omega) (by omega)
    omega
/-! ### pairs of totals -/
def matchL (S T : List Int) : List Int := [(cntP (fun a b => decide (b < a)) S T : Int), (cntP (fun a b => decide (a = b)) S T : Int), (cntP (fun a b => decide (a < b)) S T : Int)]
def P_matched : List Val → Out
  | [v, w] => match diceOf v, diceOf w with
    | some ds, some es => .val (vI (matchL (totS ds) (totS es)))
    | _, _ => .no
  | _ => .no
abbrev F_matched : FV := pureF P_matched
def P_against : List Val → Out
  | [v, w] => if saneDice v = true then (match diceOf v with
    | none => .err "NoDice"
    | some ds => if saneDice w = true then (match diceOf w with
      | none => .err "NoDice"
      | some es => .val (vI (matchL (totS ds) (totS es)))) else .no) else .no
  | _ => .no
abbrev F_against : FV := pureF P_against
def P_wins : List Val → Out
  | [v, w] => if saneDie v = true then (match dieOf v with
    | none => .err "NoDie"
    | some ds => if saneDie w = true then (match dieOf w with
      | none => .err "NoDie"
      | some es => .val (vI (matchL ds es))) else .no) else .no
  | _ => .no
abbrev F_wins : FV := pureF P_wins
def alikeB (S T : List Int) : Bool := decide (sortI S = sortI T)
theorem alikeB_iff {S T : List Int} : alikeB S T = true ↔ S.Perm T := by
  unfold alikeB
  rw [decide_eq_true_iff]
  exact ⟨fun h => (sortI_perm S).symm.trans (h ▸ sortI_perm T), sortI_permEq⟩
def P_alike : List Val → Out
  | [v, w] => if saneDice v = true then (match diceOf v with
    | none => .err "NoDice"
    | some ds => if saneDice w = true then (match diceOf w with
      | none => .err "NoDice"
      | some es => .val (.bl (alikeB (totS ds) (totS es)))) else .no) else .no
  | _ => .no
abbrev F_alike : FV := pureF P_alike
theorem hit_toK (bs : List (Int × Int)) : ∀ as : List (Int × Int), hitB (toK bs) (toK as) = some (as.all fun p => decide (getI bs p.1 = some p.2))
  | [] => rfl
  | p :: as => by
    have ih := hit_toK bs as
    simp only [toK, List.map_cons, hitB, List.all_cons] at ih ⊢
    have hv := valV_toK p.1 bs
    simp only [toK] at hv
    rw [hv]
    cases h : getI bs p.1 with
    | none => simp
    | some j =>
      simp only [Option.map_some]
      rw [ih]
      by_cases e : p.2 = j
      · subst e; simp
      · have e2 : ¬ j = p.2 := fun q => e q.symm
        simp [e, e2]
theorem nd_sub {l m : List Int} : l.Nodup → m.Nodup → (∀ x ∈ l, x ∈ m) → m.length ≤ l.length → ∀ x ∈ m, x ∈ l := by
  induction l generalizing m with
  | nil =>
    intro _ _ _ h x hx
    cases m with
    | nil => exact hx
    | cons y m => simp at h
  | cons a l ih =>
    intro n1 n2 hs hl x hx
    have n1' := List.nodup_cons.mp n1
    have ha := hs a List.mem_cons_self
    by_cases e : x = a
    · rw [e]; exact List.mem_cons_self
    · refine List.mem_cons_of_mem _ (ih (m := m.erase a) n1'.2 (n2.erase a) (fun y hy => ?_) ?_ x ?_)
      · refine (n2.mem_erase_iff).mpr ⟨?_, hs y (List.mem_cons_of_mem _ hy)⟩
        rintro rfl
        exact n1'.1 hy
      · rw [List.length_erase_of_mem ha]
        simp only [List.length_cons] at hl
        omega
      · exact (n2.mem_erase_iff).mpr ⟨e, hx⟩
theorem eqDF_bk {b1 b2 : List (Int × Int)} {S T : List Int} {v w : Val} {st : Sto} (h1 : Bk b1 S) (h2 : Bk b2 T) (e1 : dictOf v st = some (toK b1)) (e2 : dictOf w st = some (toK b2)) : eqDF v w st = .ok (.bl (alikeB S T)) st := by
  have perm : ∀ {b : List (Int × Int)} {S : List Int}, Bk b S → ∀ p ∈ b, p.2 = (S.count p.1 : Int) ∧ 0 < S.count p.1 := fun {b S} h p hp => by
    have q := nd_get h.nd p hp
    rw [h.get] at q
    by_cases z : S.count p.1 = 0
    · rw [if_pos z] at q; cases q
    · rw [if_neg z] at q
      exact ⟨(Option.some.inj q).symm, by omega⟩
  unfold eqDF
  rw [e1, e2]
  simp only [List.length_map, hit_toK]
  have key : (b1.length = b2.length ∧ (b1.all fun p => decide (getI b2 p.1 = some p.2)) = true) ↔ alikeB S T = true := by
    rw [alikeB_iff]
    constructor
    · rintro ⟨hl, ha⟩
      rw [List.all_eq_true] at ha
      have hb : ∀ t ∈ S, S.count t = T.count t := fun t ht => by
        obtain ⟨p, hp, rfl⟩ := List.mem_map.mp ((h1.mem t).mpr ht)
        have q1 := perm h1 p hp
        have q2 : getI b2 p.1 = some p.2 := by simpa using ha p hp
        rw [h2.get] at q2
        by_cases z : T.count p.1 = 0
        · rw [if_pos z] at q2; cases q2
        · rw [if_neg z] at q2
          have := Option.some.inj q2
          omega
      have hs : ∀ x ∈ b1.map (·.1), x ∈ b2.map (·.1) := fun x hx => by
        have hx := (h1.mem x).mp hx
        have := hb x hx
        refine (h2.mem x).mpr (List.count_pos_iff.mp ?_)
        rw [← this]
        exact List.count_pos_iff.mpr hx
      have hs2 := nd_sub h1.nd h2.nd hs (by simp; omega)
      refine List.perm_iff_count.mpr fun t => ?_
      by_cases ht : t ∈ S
      · exact hb t ht
      · have ht2 : t ∉ T := fun q => ht ((h1.mem t).mp (hs2 t ((h2.mem t).mpr q)))
        rw [List.count_eq_zero.mpr ht, List.count_eq_zero.mpr ht2]
    · intro p
      have hm : ∀ x, x ∈ b1.map (·.1) ↔ x ∈ b2.map (·.1) := fun x => by rw [h1.mem, h2.mem, p.mem_iff]
      have hl := ((List.perm_ext_iff_of_nodup h1.nd h2.nd).mpr hm).length_eq
      refine ⟨by simpa using hl, List.all_eq_true.mpr fun q hq => ?_⟩
      have q1 := perm h1 q hq
      rw [decide_eq_true_iff, h2.get, ← p.count_eq, if_neg (by omega), q1.1]
  by_cases hl : b1.length = b2.length
  · rw [if_pos hl]
    congr 2
    rw [Bool.eq_iff_iff, ← key]
    exact ⟨fun h => ⟨hl, h⟩, fun h => h.2⟩
  · rw [if_neg hl]
    congr 2
    symm
    rw [Bool.eq_false_iff]
    intro h
    exact hl (key.mpr h).1
end DL

namespace DL
open PySem PySem.Spec PyProof.Rows L2
section
variable {ρ : Rho} {st : Sto}
theorem mSetIx_ap {mo mi mv : ME} {w : Val} {st1 st2 st3 : Sto} {l j : Nat} {k : Int} {ws : List Val} (e1 : mv ρ st = .ok w st1) (e2 : mo ρ st1 = .ok (.ref l) st2) (e3 : mi ρ st2 = .ok (.int k) st3) (hl : lstAt st3 l = some ws) (hk : ixN ws.length k = some j) :
    mSetIx mo mi mv ρ st = .next ρ (st3.set l (.lst (ws.set j w))) := by
  unfold mSetIx withE
  simp only [e1, e2, e3, hl, hk]
/-- a walk over a book that is a value -/
theorem compD_bk {i j : Nat} {cond : MT} {elt : ME} {bk : List (Int × Int)} (h1 : ρ[i]? = some (some (.dic (toK bk)))) (hn : (bk.map (·.1)).Nodup) (c : Int → Bool) (g : Int → Int → Int)
    (hc : ∀ p ∈ bk, cond ((wipeR ρ [j]).set j (some (.int p.1))) st = .ok (c p.1) st) (hg : ∀ p ∈ bk, c p.1 = true → elt ((wipeR ρ [j]).set j (some (.int p.1))) st = .ok (.int (g p.1 p.2)) st) :
    mCompD i (Tg.name j) cond elt [j] ρ st = .ok (.lst (((bk.filter fun p => c p.1).map fun p => g p.1 p.2).map Val.int)) st := by
  unfold mCompD
  rw [h1]
  dsimp only
  have key := comp_sift (t := Tg.name j) (cond := cond) (elt := elt) (ρ := wipeR ρ [j]) (st := st) none trivial (fun v => match v with | .int t => c t | _ => false) (fun v => match v with | .int t => .int (g t ((getI bk t).getD 0)) | v => v) ((bk.map (·.1)).map Val.int) [] (fun v hv => by
    obtain ⟨t, ht, rfl⟩ := List.mem_map.mp hv
    obtain ⟨p, hp, rfl⟩ := List.mem_map.mp ht
    refine ⟨_, rfl, hc p hp, fun h => ?_⟩
    rw [hg p hp h]
    dsimp only
    rw [nd_get hn p hp]
    rfl)
  simp only [mComp_ap, keysW, show (toK bk).map (fun kv => keyV kv.1) = (bk.map (·.1)).map Val.int by simp [keyV], key, Res.thawC, id]
  congr 2
  rw [List.nil_append, List.filter_map, List.filter_map, List.map_map, List.map_map, List.map_map]
  refine List.map_congr_left fun p hp => ?_
  have hp := (List.mem_filter.mp hp).1
  simp only [Function.comp]
  rw [nd_get hn p hp]
  rfl
theorem compD_all {i j : Nat} {elt : ME} {bk : List (Int × Int)} (h1 : ρ[i]? = some (some (.dic (toK bk)))) (hn : (bk.map (·.1)).Nodup) (g : Int → Int → Int)
    (hg : ∀ p ∈ bk, elt ((wipeR ρ [j]).set j (some (.int p.1))) st = .ok (.int (g p.1 p.2)) st) :
    mCompD i (Tg.name j) mTrue elt [j] ρ st = .ok (.lst ((bk.map fun p => g p.1 p.2).map Val.int)) st := by
  have := compD_bk (cond := mTrue) h1 hn (fun _ => true) g (fun _ _ => rfl) (fun p hp _ => hg p hp)
  rwa [List.filter_eq_self.mpr fun _ _ => rfl] at this
/-- dice that were handed on -/
theorem asked_out {f : List (List Int) → Val} (hf : ∀ ds n, ClV n (f ds)) {B : FV} (h : ∀ (v : Val) (st : Sto), saneDice v = true → (diceOf v = none → ∃ g, B [v] st = .exc "NoDice" (st ++ g)) ∧ ∀ ds, diceN ds → v = vD ds → ∃ g, B [v] st = .ok (f ds) (st ++ g)) : Refines (pureF (P_asked f)) B := ref_pure fun args st => by
  unfold P_asked
  split
  · rename_i v
    by_cases hs : saneDice v = true
    · rw [if_pos hs]
      obtain ⟨h1, h2⟩ := h v st hs
      cases hd : diceOf v with
      | none =>
        obtain ⟨g, e⟩ := h1 hd
        exact .inr (.inr ⟨_, g, rfl, e⟩)
      | some ds =>
        obtain ⟨rfl, hn⟩ := diceOf_eq hd
        obtain ⟨g, e⟩ := h2 ds hn rfl
        exact .inr (.inl ⟨_, g, rfl, fun n => hf ds n, e⟩)
    · exact .inl (if_neg hs)
  · exact .inl rfl
theorem cl_vI (ns : List Int) (n : Nat) : ClV n (vI ns) := .tup (cl_ints ns)
/-! three numbers counted up -/
def inc3 (a b c : Int) (k : Nat) (n : Int) : List Int := [if k = 0 then a + n else a, if k = 1 then b + n else b, if k = 2 then c + n else c]
def plc (t u : Int) : Nat := if u < t then 0 else if t = u then 1 else 2
def sumW (R : Int → Bool) (bk : List (Int × Int)) : Int := ((bk.filter fun p => R p.1).map (·.2)).sum
theorem sumW_cons (R : Int → Bool) (p : Int × Int) (bk : List (Int × Int)) : sumW R (p :: bk) = (if R p.1 = true then p.2 else 0) + sumW R bk := by
  unfold sumW
  by_cases h : R p.1 = true <;> simp [List.filter_cons, h]
def Gt (t u : Int) : Bool := decide (u < t)
def Eq' (t u : Int) : Bool := decide (t = u)
def Lt (t u : Int) : Bool := decide (t < u)
theorem Bk.sum3 {bk : List (Int × Int)} {S : List Int} (h : Bk bk S) (R : Int → Bool) : sumW R bk = ((S.filter R).length : Int) := h.sum R
theorem sum_mul_cnt {b1 : List (Int × Int)} {S T : List Int} (h1 : Bk b1 S) (R : Int → Int → Bool) : (b1.map fun p => p.2 * ((T.filter (R p.1)).length : Int)).sum = (cntP R S T : Int) := by
  have := h1.sumF fun a => ((T.filter (R a)).length : Int)
  have e : (b1.map fun p => p.2 * ((T.filter (R p.1)).length : Int)) = b1.map fun p => ((T.filter (R p.1)).length : Int) * p.2 := List.map_congr_left fun p _ => Int.mul_comm _ _
  rw [e, this]
  unfold cntP
  clear this e h1
  induction S with
  | nil => rfl
  | cons a S ih => rw [List.map_cons, List.sum_cons, ih, List.map_cons, List.sum_cons, Int.natCast_add]
end
end DL

namespace DL
open PySem PySem.Spec PyProof.Rows L2
/-! ### a program, statement by statement -/
section
variable {ρ ρ1 : Rho} {st st1 : Sto} {a b : MS} {r : ResS} {m : ME} {ms : MA} {c : MT} {v w : Val} {i j n N : Nat} {t : Tg} {args : List Val}
theorem run_ret (h : args.length = n) (e : a (args.map some ++ List.replicate (N - n) none) st = .ret v st1) : runB n N a args st = .ok v st1 := by
  rw [runB_ap h, e]
theorem run_exc {x : Str} (h : args.length = n) (e : a (args.map some ++ List.replicate (N - n) none) st = .exc x ρ1 st1) : runB n N a args st = .exc x st1 := by
  rw [runB_ap h, e]
theorem st_go (h : a ρ st = .next ρ1 st1) (k : b ρ1 st1 = r) : mSeq a b ρ st = r := by rw [mSeq_ap, h]; exact k
theorem st_set (h : m ρ st = .ok v st1) (k : b (ρ.set i (some v)) st1 = r) : mSeq (mSet i m) b ρ st = r := by rw [mSeq_ap, mSet_ap, h]; exact k
theorem st_drop (h : m ρ st = .ok v st1) (k : b ρ st1 = r) : mSeq (mDrop m) b ρ st = r := by rw [mSeq_ap, mDrop_ap, h]; exact k
theorem st_par (h : ms ρ st = .ok [v, w] st1) (k : b ((ρ.set i (some v)).set j (some w)) st1 = r) : mSeq (mPar i j ms) b ρ st = r := by
  rw [mSeq_ap]
  unfold mPar
  rw [h]
  exact k
theorem st_asg (h : m ρ st = .ok v st1) (ht : t.asg v ρ = some ρ1) (k : b ρ1 st1 = r) : mSeq (mAsg t m) b ρ st = r := by
  rw [mSeq_ap]
  unfold mAsg withE
  rw [h]
  dsimp only
  rw [ht]
  exact k
/-- if c: ..; not so -/
theorem st_no (h : c ρ st = .ok false st) (k : b ρ st = r) : mSeq (mIfS c a mNext) b ρ st = r := by
  rw [mSeq_ap, mIfS_ap, h]
  exact k
theorem st_ret (h : m ρ st = .ok v st1) : mRet m ρ st = .ret v st1 := by rw [mRet_ap, h]
theorem if_yes {a b : MS} (h : c ρ st = .ok true st) (k : a ρ st = r) : mIfS c a b ρ st = r := by rw [mIfS_ap, h]; exact k
theorem if_no {a b : MS} (h : c ρ st = .ok false st) (k : b ρ st = r) : mIfS c a b ρ st = r := by rw [mIfS_ap, h]; exact k
/-- tests -/
theorem t_or {a b : MT} (h : a ρ st = .ok false st) {r : Res Bool} (k : b ρ st = r) : mOr a b ρ st = r := by rw [mOr_ap, h]; exact k
theorem t_and {a b : MT} (h : a ρ st = .ok true st) {r : Res Bool} (k : b ρ st = r) : mAnd a b ρ st = r := by rw [mAnd_ap, h]; exact k
theorem t_not {a : MT} {k : Bool} (h : a ρ st = .ok k st) : mNot a ρ st = .ok (!k) st := by rw [mNot_ap, h]
theorem t_bool {k : Bool} (h : m ρ st = .ok (.bl k) st) : mBool m ρ st = .ok k st := by rw [mBool_ap, h]
theorem e_and {a b : ME} {r : Res Val} (h : a ρ st = .ok (.bl true) st) (k : b ρ st = r) : mAndV a b ρ st = r := by rw [mAndV_ap, h]; exact k
theorem e_or {a b : ME} {r : Res Val} (h : a ρ st = .ok (.bl false) st) (k : b ρ st = r) : mOrV a b ρ st = r := by rw [mOrV_ap, h]; exact k
end
/-! ### products -/
theorem mulF_l {i j k : Int} {st : Sto} (h1 : -1000000000 ≤ i) (h2 : i ≤ 1000000000) (e : i * j = k) : mulF (.int i) (.int j) st = .ok (.int k) st := by
  subst e
  rw [mulF_int, if_pos (.inl ⟨Int.lt_of_lt_of_le (by decide) h1, Int.lt_of_le_of_lt h2 (by decide)⟩)]
theorem mulF_r {i j k : Int} {st : Sto} (h1 : -1000000000 ≤ j) (h2 : j ≤ 1000000000) (e : i * j = k) : mulF (.int i) (.int j) st = .ok (.int k) st := by
  subst e
  rw [mulF_int, if_pos (.inr ⟨Int.lt_of_lt_of_le (by decide) h1, Int.lt_of_le_of_lt h2 (by decide)⟩)]
/-! ### what is often compared -/
theorem neF_vI (ms ks : List Int) (st : Sto) : neF (vI ms) (vI ks) st = .ok (.bl (!decide (ms = ks))) st := by
  rw [neF_nb (by simp [Val.nb]) (by simp [Val.nb]) (by simp [Val.dep]) (by simp [Val.dep])]
  congr 3
  rw [decide_eq_decide]
  simp [map_int_inj]
theorem eqF_vI (ms ks : List Int) (st : Sto) : eqF (vI ms) (vI ks) st = .ok (.bl (decide (ms = ks))) st := by
  rw [eqF_nb (by simp [Val.nb]) (by simp [Val.nb]) (by simp [Val.dep]) (by simp [Val.dep])]
  congr 2
  rw [decide_eq_decide]
  simp [map_int_inj]
theorem eqF_lI (ms ks : List Int) (st : Sto) : eqF (.lst (ms.map Val.int)) (.lst (ks.map Val.int)) st = .ok (.bl (decide (ms = ks))) st := by
  rw [eqF_nb (by simp [Val.nb]) (by simp [Val.nb]) (by simp [Val.dep]) (by simp [Val.dep])]
  congr 2
  rw [decide_eq_decide]
  simp [map_int_inj]
theorem neF_lI (ms ks : List Int) (st : Sto) : neF (.lst (ms.map Val.int)) (.lst (ks.map Val.int)) st = .ok (.bl (!decide (ms = ks))) st := by
  rw [neF_nb (by simp [Val.nb]) (by simp [Val.nb]) (by simp [Val.dep]) (by simp [Val.dep])]
  congr 3
  rw [decide_eq_decide]
  simp [map_int_inj]
theorem nbp_pairs : ∀ bk : List (Int × Int), Val.nbs (bk.map pI) = true ∧ Val.deps (bk.map pI) ≤ 1 := by
  intro bk
  induction bk with
  | nil => exact ⟨rfl, by simp [Val.deps]⟩
  | cons q bk ih => exact ⟨by simp [Val.nbs, Val.nb, ih.1], by have := ih.2; simp [Val.deps, Val.dep]; omega⟩
theorem map_pI_inj {as bs : List (Int × Int)} : as.map pI = bs.map pI ↔ as = bs := ⟨fun h => (List.map_inj_right fun a b e => by
  cases a; cases b
  simp only [pI, Val.tup.injEq, List.cons.injEq, Val.int.injEq, and_true] at e
  simp [e]).mp h, fun h => by rw [h]⟩
theorem eqF_lP (as bs : List (Int × Int)) (st : Sto) : eqF (.lst (as.map pI)) (.lst (bs.map pI)) st = .ok (.bl (decide (as = bs))) st := by
  have h1 := nbp_pairs as
  have h2 := nbp_pairs bs
  rw [eqF_nb (by simpa [Val.nb] using h1.1) (by simpa [Val.nb] using h2.1) (by simp [Val.dep]; omega) (by simp [Val.dep]; omega)]
  congr 2
  rw [decide_eq_decide]
  simp [map_pI_inj]
theorem neF_lP (as bs : List (Int × Int)) (st : Sto) : neF (.lst (as.map pI)) (.lst (bs.map pI)) st = .ok (.bl (!decide (as = bs))) st := by
  have h1 := nbp_pairs as
  have h2 := nbp_pairs bs
  rw [neF_nb (by simpa [Val.nb] using h1.1) (by simpa [Val.nb] using h2.1) (by simp [Val.dep]; omega) (by simp [Val.dep]; omega)]
  congr 3
  rw [decide_eq_decide]
  simp [map_pI_inj]
theorem mean_perm {S T : List Int} (h : S.Perm T) : meanV S = meanV T := by
  have := perm_sum h
  simp only [meanV, this, h.length_eq]
theorem spread_perm {S T : List Int} (h : S.Perm T) : spreadV S = spreadV T := by
  have h1 := perm_sum h
  have h2 : sqI S = sqI T := perm_map_sum h _
  simp only [spreadV, h1, h2, h.length_eq]
theorem match_perm {S S' T T' : List Int} (h1 : S.Perm S') (h2 : T.Perm T') : matchL S T = matchL S' T' := by
  simp only [matchL, cnt_perm _ h1 h2]
theorem dice_of {ds : List (List Int)} (h1 : 1 ≤ ds.length) (h2 : ds.length ≤ 4) (h3 : ∀ d ∈ ds, dieN d = true) : diceN ds := ⟨h1, h2, h3⟩
theorem sums_addS (a b : List Int) : sums a b = addS a b := rfl
theorem perm_addS {S T : List Int} (h : S.Perm T) (R : List Int) : (addS R S).Perm (addS R T) := by
  unfold addS
  induction R with
  | nil => exact .refl _
  | cons a R ih => rw [List.flatMap_cons, List.flatMap_cons]; exact (h.map _).append ih
theorem addS_comm (S T : List Int) : (addS S T).Perm (addS T S) := by
  have := flatMap_comm_perm (fun a b => a + b) S T
  refine this.trans ?_
  unfold addS
  have e : (T.flatMap fun b => S.map fun a => a + b) = T.flatMap fun b => S.map fun a => b + a := by
    congr 1
    funext b
    congr 1
    funext a
    omega
  rw [e]
end DL

namespace DL
open PySem PySem.Spec PyProof.Rows L2
/-! ### rolls and totals -/
theorem grow_sum (rows : List (List Int)) (d : List Int) : (grow rows d).map List.sum = stepS (rows.map List.sum) d := by
  unfold grow stepS
  rw [List.map_flatMap, List.flatMap_map]
  congr 1
  funext r
  rw [List.map_map]
  congr 1
  funext f
  simp
theorem fold_sum : ∀ (ds : List (List Int)) (rows : List (List Int)), (ds.foldl grow rows).map List.sum = ds.foldl stepS (rows.map List.sum)
  | [], _ => rfl
  | d :: ds, rows => by rw [List.foldl_cons, List.foldl_cons, fold_sum ds, grow_sum]
theorem rows_tot (ds : List (List Int)) : (rowsL ds).map List.sum = totS ds := fold_sum ds [[]]
theorem rolls_perm (ds : List (List Int)) : (rollsL ds).Perm (rowsL ds) := sortR_perm _
theorem rolls_tot (ds : List (List Int)) : ((rollsL ds).map List.sum).Perm (totS ds) := by
  rw [← rows_tot]
  exact (rolls_perm ds).map _
theorem rolls_count (ds : List (List Int)) : (rollsL ds).length = prodN List.length ds := by
  have := (rolls_tot ds).length_eq
  rw [List.length_map, totS_len] at this
  exact this
theorem mem_grow {rows : List (List Int)} {d r : List Int} : r ∈ grow rows d ↔ ∃ q ∈ rows, ∃ f ∈ d, r = q ++ [f] := by
  simp only [grow, List.mem_flatMap, List.mem_map]
  constructor
  · rintro ⟨q, hq, f, hf, rfl⟩; exact ⟨q, hq, f, hf, rfl⟩
  · rintro ⟨q, hq, f, hf, rfl⟩; exact ⟨q, hq, f, hf, rfl⟩
theorem perm_grow {rows rows' : List (List Int)} {d d' : List Int} (h : rows.Perm rows') (h' : d.Perm d') : (grow rows d).Perm (grow rows' d') := by
  unfold grow
  refine (h.flatMap_right _).trans ?_
  clear h
  induction rows' with
  | nil => exact .refl _
  | cons r rows ih => rw [List.flatMap_cons, List.flatMap_cons]; exact (h'.map _).append ih
theorem grow_map (f : Int → Int) (rows : List (List Int)) (d : List Int) : grow (rows.map (List.map f)) (d.map f) = (grow rows d).map (List.map f) := by
  unfold grow
  rw [List.map_flatMap, List.flatMap_map]
  congr 1
  funext r
  rw [List.map_map, List.map_map]
  congr 1
  funext x
  simp
theorem fold_map (f : Int → Int) : ∀ (ds rows : List (List Int)), (ds.map (List.map f)).foldl grow (rows.map (List.map f)) = (ds.foldl grow rows).map (List.map f)
  | [], rows => rfl
  | d :: ds, rows => by rw [List.map_cons, List.foldl_cons, List.foldl_cons, grow_map, fold_map f ds]
theorem rows_map (f : Int → Int) (ds : List (List Int)) : rowsL (ds.map (List.map f)) = (rowsL ds).map (List.map f) := fold_map f ds [[]]
/-! ### kept faces -/
theorem kept_both {r : List Int} {k : Nat} (h : k ≤ r.length) : keptI r k true + keptI r (r.length - k) false = r.sum := by
  simp only [keptI, if_true, Bool.false_eq_true, if_false]
  rw [← perm_sum (sortI_perm r), Int.add_comm, ← List.sum_append, List.take_append_drop]
theorem kept_le {r : List Int} (h : 1 ≤ r.length) : keptI r 1 false ≤ keptI r 1 true := by
  have h1 := kept_max h (keptI r 1 true)
  have h2 := kept_min h (keptI r 1 false - 1)
  rw [decide_eq_true (Int.le_refl _)] at h1
  rw [decide_eq_true (by omega)] at h2
  cases r with
  | nil => simp at h
  | cons x r =>
    have a := List.all_eq_true.mp h1.symm x List.mem_cons_self
    have b := List.all_eq_true.mp h2.symm x List.mem_cons_self
    simp only [decide_eq_true_eq] at a b
    omega
theorem kept_mirror {r : List Int} (h : 1 ≤ r.length) (e : Int) : keptI (r.map fun f => e - f) 1 false = e - keptI r 1 true := by
  have hl : 1 ≤ (r.map fun f => e - f).length := by simpa using h
  have key : ∀ T : Int, T < keptI (r.map fun f => e - f) 1 false ↔ keptI r 1 true ≤ e - T - 1 := fun T => by
    have h1 := kept_min hl T
    have h2 := kept_max h (e - T - 1)
    rw [← decide_eq_true_iff (p := T < _), h1, ← decide_eq_true_iff (p := keptI r 1 true ≤ _), h2, List.all_map, Bool.eq_iff_iff.mp]
    congr 1
    rw [eq_comm]
    congr 1
    funext f
    simp only [Function.comp]
    rw [decide_eq_decide]
    omega
  have a := (key (keptI (r.map fun f => e - f) 1 false - 1)).mp (by omega)
  have b := (key (e - keptI r 1 true - 1)).mpr (by omega)
  omega
/-! what a sorted book says -/
theorem sumP_F {bk : List (Int × Int)} {S : List Int} (h : Bk bk S) (f : Int → Int) : ((sortP bk).map fun p => f p.1 * p.2).sum = (S.map f).sum := by
  rw [← h.sumF f]
  exact perm_sum ((sortP_perm bk).map _)
theorem sumP_id {bk : List (Int × Int)} {S : List Int} (h : Bk bk S) : ((sortP bk).map fun p => p.1 * p.2).sum = S.sum := by
  have := sumP_F h id
  simpa using this
theorem sumP_n {bk : List (Int × Int)} {S : List Int} (h : Bk bk S) : ((sortP bk).map fun p => p.2).sum = (S.length : Int) := by
  have := h.sumP fun _ => true
  rw [List.filter_eq_self.mpr fun _ _ => rfl, List.filter_eq_self.mpr fun _ _ => rfl] at this
  exact this
theorem Bk.mirror {bk : List (Int × Int)} {S : List Int} (h : Bk bk S) (e : Int) : Bk (bk.map fun p => (e - p.1, p.2)) (S.map fun t => e - t) := by
  have nd : ((bk.map fun p => (e - p.1, p.2)).map (·.1)).Nodup := by
    rw [List.map_map]
    have : ((·.1) ∘ fun p : Int × Int => (e - p.1, p.2)) = (fun t : Int => e - t) ∘ (·.1) := rfl
    rw [this, ← List.map_map]
    exact List.Pairwise.map _ (fun a b h q => h (by omega)) h.nd
  refine ⟨nd, fun t => ?_⟩
  have g : ∀ bk : List (Int × Int), getI (bk.map fun p => (e - p.1, p.2)) t = getI bk (e - t) := by
    intro bk
    induction bk with
    | nil => rfl
    | cons p bk ih =>
      rw [List.map_cons, getI_cons, getI_cons, ih]
      by_cases q : e - p.1 = t
      · rw [if_pos q, if_pos (by omega)]
      · rw [if_neg q, if_neg (by omega)]
  have c : (S.map fun t => e - t).count t = S.count (e - t) := by
    have := count_inj (f := fun t => e - t) (fun a b h => by omega) S (e - t)
    rwa [show e - (e - t) = t by omega] at this
  rw [g, c]
  exact h.get _
theorem Bk.permB {bk bk' : List (Int × Int)} {S : List Int} (h : Bk bk S) (p : bk.Perm bk') : Bk bk' S := by
  have nd : (bk'.map (·.1)).Nodup := (p.map _).nodup_iff.mp h.nd
  refine ⟨nd, fun t => ?_⟩
  rw [← h.get t]
  cases q : getI bk t with
  | none =>
    cases q' : getI bk' t with
    | none => rfl
    | some n =>
      have h1 := getI_mem.mp (show (getI bk' t).isSome = true by rw [q']; rfl)
      have h2 := (p.map (·.1)).mem_iff.mpr h1
      have h3 := getI_mem.mpr h2
      rw [q] at h3
      cases h3
  | some n =>
    obtain ⟨r, hr, e⟩ := List.mem_map.mp (getI_mem.mp (show (getI bk t).isSome = true by rw [q]; rfl))
    subst e
    have h1 := nd_get h.nd r hr
    rw [q] at h1
    rw [nd_get nd r (p.mem_iff.mp hr), ← h1]
theorem Bk.sorted {bk : List (Int × Int)} {S : List Int} (h : Bk bk S) : Bk (sortP bk) S := h.permB (sortP_perm bk).symm
theorem bk_kept (ds : List (List Int)) (k : Nat) (up : Bool) : Bk (keptL ds k up) ((rollsL ds).map fun r => keptI r k up) := (bk_book _).sorted
/-! ### fractions, once more -/
theorem mean_spec {S : List Int} (h0 : ∀ t ∈ S, 0 ≤ t) (hl : 0 < S.length) : ∃ p q g : Nat, meanV S = vI [(p : Int), (q : Int)] ∧ 0 < g ∧ 0 < q ∧ (p : Int) * g = S.sum ∧ q * g = S.length ∧ Nat.gcd p q = 1 := by
  obtain ⟨p, q, g, e, hg, hq, e1, e2, e3⟩ := frac_spec (u := S.sum.toNat) hl
  refine ⟨p, q, g, by rw [meanV, e], hg, hq, ?_, e2, e3⟩
  have := sum_nonneg h0
  rw [← Int.natCast_mul, e1]
  omega
theorem spread_spec (S : List Int) (hl : 0 < S.length) : ∃ p q g : Nat, spreadV S = vI [(p : Int), (q : Int)] ∧ 0 < g ∧ 0 < q ∧ (p : Int) * g = sqI S * S.length - S.sum * S.sum ∧ q * g = S.length * S.length ∧ Nat.gcd p q = 1 := by
  obtain ⟨p, q, g, e, hg, hq, e1, e2, e3⟩ := frac_spec (u := (sqI S * S.length - S.sum * S.sum).toNat) (Nat.mul_pos hl hl)
  refine ⟨p, q, g, by rw [spreadV, e], hg, hq, ?_, e2, e3⟩
  have := sq_ge S
  rw [← Int.natCast_mul, e1]
  omega
/-! ### lists of pairs -/
def pairsOf : List Val → Option (List (Int × Int))
  | [] => some []
  | .tup [.int a, .int b] :: r => (pairsOf r).map fun ps => (a, b) :: ps
  | _ => none
@[simp] theorem pairsOf_map : ∀ ps : List (Int × Int), pairsOf (ps.map pI) = some ps
  | [] => rfl
  | p :: ps => by simp [pairsOf, pairsOf_map ps]
theorem pairsOf_eq : ∀ {vs : List Val} {ps : List (Int × Int)}, pairsOf vs = some ps → vs = ps.map pI
  | [], _, h => by cases h; rfl
  | v :: r, ps, h => by
    unfold pairsOf at h
    split at h
    · cases h; rename_i e; cases e
    · rename_i a b r' e
      cases e
      cases hr : pairsOf r with
      | none => rw [hr] at h; cases h
      | some qs =>
        rw [hr] at h
        cases h
        rw [pairsOf_eq hr]
        rfl
    · cases h
/-- a walk over pairs -/
theorem comp_pI {i j : Nat} {elt : ME} {ρ : Rho} {st : Sto} (g : Int → Int → Val) (bk : List (Int × Int)) (hg : ∀ p ∈ bk, elt ((ρ.set i (some (.int p.1))).set j (some (.int p.2))) st = .ok (g p.1 p.2) st) :
    compLoop (Tg.tup [i, j]) mTrue elt none ρ (bk.map pI) [] st = .ok (bk.map fun p => g p.1 p.2) st := by
  refine (comp_pure none trivial (fun v => match v with | .tup [.int a, .int b] => g a b | v => v) (bk.map pI) [] fun v hv => ?_).trans ?_
  · obtain ⟨q, hq, rfl⟩ := List.mem_map.mp hv
    exact ⟨_, rfl, rfl, hg q hq⟩
  · rw [List.nil_append, List.map_map]
    rfl
end DL

namespace DL
open PySem PySem.Spec PyProof.Rows L2
/-! ### mirrored dice; kept totals, asked -/
theorem le_last : ∀ {l : List Int}, l.Pairwise (· ≤ ·) → ∀ n ∈ l, n ≤ l.getLastD 0
  | [a], _, n, hn => by
    simp only [List.mem_singleton] at hn
    subst hn
    exact Int.le_refl _
  | a :: b :: ms, h, n, hn => by
    have h1 := List.pairwise_cons.mp h
    have ih := le_last h1.2
    have e : (a :: b :: ms).getLastD 0 = (b :: ms).getLastD 0 := by rw [List.getLastD_cons, List.getLastD_cons, List.getLastD_cons]
    rw [e]
    rcases List.mem_cons.mp hn with rfl | hn
    · exact Int.le_trans (h1.1 b List.mem_cons_self) (ih b List.mem_cons_self)
    · exact ih n hn
theorem last_mem : ∀ {l : List Int}, l ≠ [] → l.getLastD 0 ∈ l
  | [a], _ => by simp
  | a :: b :: ms, _ => by
    have e : (a :: b :: ms).getLastD 0 = (b :: ms).getLastD 0 := by rw [List.getLastD_cons, List.getLastD_cons, List.getLastD_cons]
    rw [e]
    exact List.mem_cons_of_mem _ (last_mem (by simp))
theorem mirror_sort {ns : List Int} (h : ns.Pairwise (· ≤ ·)) (e : Int) : sortI (ns.map fun f => e - f) = (ns.map fun f => e - f).reverse := by
  have p : (sortI (ns.map fun f => e - f)).Perm (ns.map fun f => e - f).reverse := (sortI_perm _).trans (List.reverse_perm _).symm
  refine List.Perm.eq_of_pairwise (le := fun a b : Int => a ≤ b) (fun a b _ _ h1 h2 => by omega) (sortI_sorted _) ?_ p
  rw [List.pairwise_reverse, List.pairwise_map]
  exact h.imp fun q => by omega
theorem mirror_die {ns : List Int} (h : dieN ns = true) : dieN ((ns.map fun f => ends ns - f).reverse) = true ∧ ends ((ns.map fun f => ends ns - f).reverse) = ends ns ∧ P_mirrored [vI ns] = .val (vI (ns.map fun f => ends ns - f).reverse) := by
  have hd := dieN_iff.mp h
  have hne : ns ≠ [] := by rintro rfl; simp at hd
  have hub := le_last hd.2.2.2
  have hlb : ∀ n ∈ ns, ns.headD 0 ≤ n := by
    cases ns with
    | nil => exact absurd rfl hne
    | cons a ms =>
      intro n hn
      rcases List.mem_cons.mp hn with rfl | hn
      · exact Int.le_refl _
      · exact (List.pairwise_cons.mp hd.2.2.2).1 n hn
  have hh : ns.headD 0 ∈ ns := by
    cases ns with
    | nil => exact absurd rfl hne
    | cons a ms => exact List.mem_cons_self
  have hl := last_mem hne
  have srt : ((ns.map fun f => ends ns - f).reverse).Pairwise (· ≤ ·) := by
    rw [List.pairwise_reverse, List.pairwise_map]
    exact hd.2.2.2.imp fun q => by omega
  have g : dieN ((ns.map fun f => ends ns - f).reverse) = true := by
    refine dieN_iff.mpr ⟨by simpa using hd.1, by simpa using hd.2.1, fun n hn => ?_, srt⟩
    rw [List.mem_reverse] at hn
    obtain ⟨f, hf, rfl⟩ := List.mem_map.mp hn
    have h1 := hub f hf
    have h2 := hlb f hf
    have h3 := hd.2.2.1 _ hh
    have h4 := hd.2.2.1 _ hl
    unfold ends
    omega
  refine ⟨g, ?_, ?_⟩
  · have e1 : ((ns.map fun f => ends ns - f).reverse).headD 0 = ends ns - ns.getLastD 0 := by
      rw [List.headD_eq_head?_getD, List.head?_reverse, List.getLast?_map, List.getLastD_eq_getLast?]
      rw [List.getLast?_eq_some_getLast hne]
      rfl
    have e2 : ((ns.map fun f => ends ns - f).reverse).getLastD 0 = ends ns - ns.headD 0 := by
      rw [List.getLastD_eq_getLast?, List.getLast?_reverse, List.head?_map, List.headD_eq_head?_getD]
      rw [List.head?_eq_some_head hne]
      rfl
    rw [ends, e1, e2]
    unfold ends
    omega
  · simp only [P_mirrored, sane_vI, if_true, dieOf_vI h, madeO, mirror_sort hd.2.2.2, g]
theorem kept_ok {ds : List (List Int)} (h : diceN ds) {k : Nat} (h1 : 1 ≤ k) (h2 : k ≤ ds.length) (up : Bool) (st : Sto) : F_kept [vD ds, .int (k : Nat), .str (if up = true then "greatest" else "least")] st = .ok (.lst ((keptL ds k up).map pI)) st := by
  have hw : wholeB (.int (k : Nat)) 1 ds.length = true := by simp [wholeB]; omega
  cases up with
  | true =>
    simp only [pureF, P_kept, sane_vD, if_true, diceOf_vD h, Val.top, hw, true_or, decide_true, Int.toNat_natCast]
    rfl
  | false =>
    have e : decide ((("least" : Str)) = "greatest") = false := by decide +kernel
    simp only [pureF, P_kept, sane_vD, if_true, diceOf_vD h, Val.top, hw, Bool.false_eq_true, if_false, or_true, e, Int.toNat_natCast]
    rfl
theorem kept_in {ds : List (List Int)} (h : diceN ds) (k : Nat) (up : Bool) : ∀ p ∈ keptL ds k up, -1000 ≤ p.1 ∧ p.1 ≤ 1000 := fun p hp => by
  have hm := ((bk_kept ds k up).mem p.1).mp (List.mem_map_of_mem hp)
  obtain ⟨r, hr, e⟩ := List.mem_map.mp hm
  have hl := rolls_row r hr
  have hs : r.sum ∈ totS ds := (rolls_tot ds).mem_iff.mp (List.mem_map_of_mem hr)
  have fin : ∀ (ds rows : List (List Int)), (∀ d ∈ ds, dieN d = true) → (∀ r ∈ rows, ∀ f ∈ r, (0 : Int) ≤ f ∧ f ≤ 30) → ∀ r ∈ ds.foldl grow rows, ∀ f ∈ r, (0 : Int) ≤ f ∧ f ≤ 30 := by
    intro ds
    induction ds with
    | nil => intro rows _ h; exact h
    | cons d ds ih =>
      intro rows hd h
      refine ih (grow rows d) (fun x hx => hd x (List.mem_cons_of_mem _ hx)) fun r hr f hf => ?_
      obtain ⟨q, hq, g, hg, rfl⟩ := mem_grow.mp hr
      rcases List.mem_append.mp hf with hf | hf
      · exact h q hq f hf
      · have : f = g := by simpa using hf
        subst this
        exact (dieN_iff.mp (hd d List.mem_cons_self)).2.2.1 f hg
  have hf : ∀ f ∈ r, (0 : Int) ≤ f ∧ f ≤ 30 := fin ds [[]] h.2.2 (by simp) r ((rolls_perm ds).mem_iff.mp hr)
  have hsub : ∃ l : List Int, keptI r k up = l.sum ∧ (∀ f ∈ l, f ∈ r) ∧ l.length ≤ r.length := by
    cases up with
    | true => exact ⟨(sortI r).drop (r.length - k), by simp [keptI], fun f hf => mem_sortI.mp (List.mem_of_mem_drop hf), by simp⟩
    | false => exact ⟨(sortI r).take k, by simp [keptI], fun f hf => mem_sortI.mp (List.mem_of_mem_take hf), by simp; omega⟩
  obtain ⟨l, e1, e2, e3⟩ := hsub
  have b := sum_in (S := l) (k := 30) fun t ht => hf t (e2 t ht)
  have := h.2.1
  rw [← e, e1]
  omega
theorem neF_of_eq {i j : Int} (h : i = j) (st : Sto) : neF (.int i) (.int j) st = .ok (.bl false) st := by
  rw [neF_int, h]
  simp
end DL

namespace DL
open PySem PySem.Spec PyProof.Rows L2
/-! ### all rolls, walked -/
/-- rows as a value, or as a list that was made behind the base -/
def LIsN (base : Sto) (v : Val) (rows : List (List Int)) (g : List Cell) : Prop := v = vR rows ∨ ∃ l, v = .ref l ∧ base.length ≤ l ∧ (base ++ g)[l]? = some (.lst (rows.map vI))
theorem rolls_in (d : Val) (rv : Val) (die : List Int) (l : Nat) (g : Option (Nat × Cell)) (base : Sto) (hl : l = base.length) (hg : Guard base g) (hd : die.length ≤ 8) : ∀ (us acc : List (List Int)) (x y : Option Val), acc.length + 8 * us.length ≤ 1000000 → (∀ u ∈ us, u.length ≤ 10) →
    ∃ x' y', loop (Tg.name 4) (mDrop (mMeth chkL extendF (mVar 3) (mSeqA (mVal (mComp (mItT (mVar 2)) (Tg.name 5) mTrue (mOp addF (mVar 4) (mTup (mSeqA (mVar 5) mNilA))) [5])) mNilA))) g (us.map vI)
      [some d, some rv, some (vI die), some (.ref l), x, y] (base ++ [.lst (acc.map vI)]) = .next [some d, some rv, some (vI die), some (.ref l), x', y'] (base ++ [.lst ((acc ++ grow us die).map vI)]) := by
  have hgu : ∀ c : Cell, Guard (base ++ [c]) g := fun c => by
    cases g with
    | none => trivial
    | some p =>
      obtain ⟨j, e⟩ := p
      have hg : base[j]? = some e := hg
      show (base ++ [c])[j]? = some e
      rw [List.getElem?_append_left (List.getElem?_eq_some_iff.mp hg).1]
      exact hg
  intro us
  induction us with
  | nil => intro acc x y _ _; exact ⟨x, y, by simp [loop, hgu, grow]⟩
  | cons u us ih =>
    intro acc x y hz hu
    simp only [List.length_cons] at hz
    obtain ⟨x', y', ih⟩ := ih (acc ++ die.map fun f => u ++ [f]) (some (vI u)) y (by simp; omega) (fun v hv => hu v (List.mem_cons_of_mem _ hv))
    refine ⟨x', y', ?_⟩
    have hc : ∀ st', compLoop (Tg.name 5) mTrue (mOp addF (mVar 4) (mTup (mSeqA (mVar 5) mNilA))) none [some d, some rv, some (vI die), some (.ref l), some (vI u), none] (die.map Val.int) [] st' = .ok ((die.map fun f => u ++ [f]).map vI) st' := fun st' => by
      refine (comp_pure none trivial (fun v => match v with | .int f => vI (u ++ [f]) | v => v) (die.map Val.int) [] fun v hv => ?_).trans (by simp)
      obtain ⟨f, _, rfl⟩ := List.mem_map.mp hv
      refine ⟨[some d, some rv, some (vI die), some (.ref l), some (vI u), some (.int f)], rfl, rfl, ?_⟩
      have h1 := hu u List.mem_cons_self
      have h2 : u.length + 1 ≤ sizeLine := by have : sizeLine = 2 ^ 24 := rfl; omega
      simp [addF, h2, show (1 : Nat) ≤ sizeLine by decide]
    have h2 : acc.length + die.length ≤ sizeLine := by have : sizeLine = 2 ^ 24 := rfl; omega
    rw [List.map_cons]
    subst hl
    simp only [loop, hgu, if_true, Tg.asg]
    simp [chkL, readL, lstAt, itemsT, wipeR, hc, isLD, Val.ofCell, extendF, DL.listOf, h2, -List.map_map]
    rw [show grow (u :: us) die = (die.map fun f => u ++ [f]) ++ grow us die from rfl]
    simpa [List.append_assoc] using ih
theorem rolls_out (d : Val) (rows0 : List (List Int)) (base : Sto) : ∀ (as rows : List (List Int)) (rv : Val) (g : List Cell) (x2 x3 x4 x5 : Option Val), LIsN base rv rows g → rows.length * 8 ^ as.length ≤ 100000 → (∀ u ∈ rows, u.length + as.length ≤ 10) → (∀ a ∈ as, a.length ≤ 8) →
    ∃ rv' g' x2' x3' x4' x5', loop (Tg.name 2) (mSeq (mSet 3 (mNew (mLst mNilA))) (mSeq (mFor (mItL (mVar 1)) (Tg.name 4) (mDrop (mMeth chkL extendF (mVar 3) (mSeqA (mVal (mComp (mItT (mVar 2)) (Tg.name 5) mTrue (mOp addF (mVar 4) (mTup (mSeqA (mVar 5) mNilA))) [5])) mNilA)))) (mSet 1 (mVar 3)))) none (as.map vI)
      [some d, some rv, x2, x3, x4, x5] (base ++ g) = .next [some d, some rv', x2', x3', x4', x5'] (base ++ g') ∧ LIsN base rv' (as.foldl grow rows) g' := by
  intro as
  induction as with
  | nil => intro rows rv g x2 x3 x4 x5 h _ _ _; exact ⟨rv, g, x2, x3, x4, x5, by simp [loop, Guard], h⟩
  | cons a as ih =>
    intro rows rv g x2 x3 x4 x5 h hz hr ha
    simp only [List.length_cons] at hz hr
    have ha1 := ha a List.mem_cons_self
    have hp : 1 ≤ 8 ^ as.length := Nat.pos_of_ne_zero (by simp)
    have hz1 : rows.length * 8 ≤ 100000 := by
      refine Nat.le_trans ?_ hz
      refine Nat.mul_le_mul_left _ ?_
      rw [Nat.pow_succ]
      omega
    have hz2 : (grow rows a).length * 8 ^ as.length ≤ 100000 := by
      rw [grow_len]
      refine Nat.le_trans ?_ hz
      rw [Nat.pow_succ, Nat.mul_comm (8 ^ as.length) 8, ← Nat.mul_assoc]
      exact Nat.mul_le_mul_right _ (Nat.mul_le_mul_left _ ha1)
    obtain ⟨gd, e1, e2⟩ : ∃ gd, itemsL rv (base ++ g ++ [.lst []]) = .ok ⟨rows.map vI, gd⟩ (base ++ g ++ [.lst []]) ∧ Guard (base ++ g) gd := by
      rcases h with rfl | ⟨l, rfl, _, hl⟩
      · exact ⟨none, rfl, trivial⟩
      · refine ⟨some (l, .lst (rows.map vI)), ?_, hl⟩
        unfold itemsL
        dsimp only
        rw [List.getElem?_append_left (List.getElem?_eq_some_iff.mp hl).1, hl]
    obtain ⟨y4, y5, e3⟩ := rolls_in d rv a (base ++ g).length gd (base ++ g) rfl e2 ha1 rows [] x4 x5 (by simp; omega) (fun u hu => by have := hr u hu; omega)
    obtain ⟨rv', g', z2, z3, z4, z5, e4, e5⟩ := ih (grow rows a) (.ref (base ++ g).length) (g ++ [.lst ((grow rows a).map vI)]) (some (vI a)) (some (.ref (base ++ g).length)) y4 y5
      (.inr ⟨_, rfl, by simp, by rw [← List.append_assoc]; simp⟩) hz2
      (fun u hu => by
        simp only [grow, List.mem_flatMap, List.mem_map] at hu
        obtain ⟨q, hq, f, _, rfl⟩ := hu
        have := hr q hq
        simp
        omega)
      (fun b hb => ha b (List.mem_cons_of_mem _ hb))
    refine ⟨rv', g', z2, z3, z4, z5, ?_, e5⟩
    rw [List.map_cons]
    simp only [loop, Guard, if_true, Tg.asg]
    simp only [List.map_nil, List.nil_append] at e3
    have e1' : itemsL rv (base ++ (g ++ [.lst []])) = .ok ⟨rows.map vI, gd⟩ (base ++ (g ++ [.lst []])) := by rw [← List.append_assoc]; exact e1
    simp only [List.length_append, List.append_assoc] at e3 e4
    simp [e1', e3, e4]

/-- a def that tells a list that it made -/
theorem ref_list {P : List Val → Out} {B : FV} (h : ∀ args st, P args = .no ∨ (∃ c g, P args = .err c ∧ B args st = .exc c (st ++ g)) ∨ ∃ vs v g, P args = .val (.lst vs) ∧ (∀ n, ClL n vs) ∧ B args st = .ok v (st ++ g) ∧ (v = .lst vs ∨ ∃ l, v = .ref l ∧ st.length ≤ l ∧ (st ++ g)[l]? = some (.lst vs))) : Refines (pureF P) B := fun args st k1 k2 => by
  rcases h args st with e | ⟨c, g, e, b⟩ | ⟨vs, v, g, e, c, b, hv⟩
  · simp only [pureF, e, Out.res]
  · simp only [pureF, e, Out.res]
    exact ⟨_, b, trim_same .non⟩
  · simp only [pureF, e, Out.res]
    refine ⟨v, _, b, Nat.le_refl _, ⟨g, rfl⟩, fun c h => .inl h, ?_⟩
    rcases hv with rfl | ⟨l, rfl, hl, hc⟩
    · exact .inl ⟨rfl, .lst (c _)⟩
    · exact .inr ⟨l, _, rfl, hl, hc, rfl, rfl, c _⟩
def P__law_rolls : List Val → Out
  | [v] => match diceOf v with
    | some ds => .val (vR (rowsL ds))
    | none => .no
  | _ => .no
abbrev F__law_rolls : FV := pureF P__law_rolls
theorem revL_ints (ns : List Int) : True := trivial
theorem row_sum (r : List Int) (st : Sto) : sumG (vI r) st = some (.int r.sum) := by simp [sumG, seqOf]
theorem count_filter (S : List Int) (t : Int) : S.count t = (S.filter (Eq' t)).length := by
  induction S with
  | nil => rfl
  | cons u S ih =>
    rw [List.count_cons, ih]
    by_cases e : t = u
    · subst e; simp [Eq', List.filter_cons]
    · have e2 : ¬ u = t := fun q => e q.symm
      simp [Eq', List.filter_cons, e, e2]
theorem match_flip (S T : List Int) : matchL T S = (matchL S T).reverse := by
  have h1 : cntP (fun a b => decide (b < a)) T S = cntP (fun a b => decide (a < b)) S T := cnt_flip _ _ _
  have h2 : cntP (fun a b => decide (a = b)) T S = cntP (fun a b => decide (a = b)) S T := by
    rw [cnt_flip]
    congr 1
    funext a b
    rw [decide_eq_decide]
    exact eq_comm
  have h3 : cntP (fun a b => decide (a < b)) T S = cntP (fun a b => decide (b < a)) S T := cnt_flip _ _ _
  simp only [matchL, h1, h2, h3, List.reverse_cons, List.reverse_nil, List.nil_append, List.cons_append]
/-- [sum(r) for r in rows] -/
theorem comp_sums {i : Nat} {ρ : Rho} {st : Sto} (hi : ∀ v : Val, (ρ.set i (some v))[i]? = some (some v)) (rows : List (List Int)) :
    compLoop (Tg.name i) mTrue (mCall (lift1 sumG) (mSeqA (mVar i) mNilA)) none ρ (rows.map vI) [] st = .ok ((rows.map List.sum).map Val.int) st := by
  refine (comp_pure none trivial (fun v => match v with | .tup vs => .int (((intsOf vs).getD []).sum) | v => v) (rows.map vI) [] fun v hv => ?_).trans ?_
  · obtain ⟨r, _, rfl⟩ := List.mem_map.mp hv
    refine ⟨_, rfl, rfl, ?_⟩
    simp [hi, row_sum]
  · rw [List.nil_append, List.map_map, List.map_map]
    congr 1
    refine List.map_congr_left fun r _ => ?_
    simp
/-- [x for x in xs if p(x)] -/
theorem comp_keep {i : Nat} {cond : MT} {ρ : Rho} {st : Sto} (p : Int → Bool) (hi : ∀ v : Val, (ρ.set i (some v))[i]? = some (some v)) (xs : List Int) (hc : ∀ x ∈ xs, cond (ρ.set i (some (.int x))) st = .ok (p x) st) :
    compLoop (Tg.name i) cond (mVar i) none ρ (xs.map Val.int) [] st = .ok ((xs.filter p).map Val.int) st := by
  refine (comp_sift none trivial (fun v => match v with | .int t => p t | _ => false) id (xs.map Val.int) [] fun v hv => ?_).trans ?_
  · obtain ⟨t, ht, rfl⟩ := List.mem_map.mp hv
    exact ⟨_, rfl, hc t ht, fun _ => by simp [hi]⟩
  · rw [List.nil_append, List.map_id, List.filter_map]
    rfl
end DL

namespace DL
open PySem PySem.Spec PyProof.Rows L2
/-! ### the greatest, the least -/
theorem maxI_spec {l : List Int} (h : l ≠ []) : maxI l ∈ l ∧ ∀ x ∈ l, x ≤ maxI l := by
  have key : ∀ (l : List Int) (a : Int), a ≤ l.foldl max a ∧ (∀ x ∈ l, x ≤ l.foldl max a) ∧ (l.foldl max a = a ∨ l.foldl max a ∈ l) := by
    intro l
    induction l with
    | nil => intro a; exact ⟨Int.le_refl _, (fun _ h => nomatch h), .inl rfl⟩
    | cons y l ih =>
      intro a
      obtain ⟨h1, h2, h3⟩ := ih (max a y)
      rw [List.foldl_cons]
      refine ⟨by omega, fun x hx => ?_, ?_⟩
      · rcases List.mem_cons.mp hx with rfl | hx
        · omega
        · exact h2 x hx
      · rcases h3 with h3 | h3
        · rw [h3]
          rcases Int.le_total a y with q | q
          · right; rw [Int.max_eq_right q]; exact List.mem_cons_self
          · left; exact Int.max_eq_left q
        · exact .inr (List.mem_cons_of_mem _ h3)
  cases l with
  | nil => exact absurd rfl h
  | cons a l =>
    obtain ⟨h1, h2, h3⟩ := key l a
    refine ⟨?_, fun x hx => ?_⟩
    · rcases h3 with h3 | h3
      · show l.foldl max a ∈ a :: l
        rw [h3]
        exact List.mem_cons_self
      · exact List.mem_cons_of_mem _ h3
    · rcases List.mem_cons.mp hx with rfl | hx
      · exact h1
      · exact h2 x hx
theorem minI_spec {l : List Int} (h : l ≠ []) : minI l ∈ l ∧ ∀ x ∈ l, minI l ≤ x := by
  have key : ∀ (l : List Int) (a : Int), l.foldl min a ≤ a ∧ (∀ x ∈ l, l.foldl min a ≤ x) ∧ (l.foldl min a = a ∨ l.foldl min a ∈ l) := by
    intro l
    induction l with
    | nil => intro a; exact ⟨Int.le_refl _, (fun _ h => nomatch h), .inl rfl⟩
    | cons y l ih =>
      intro a
      obtain ⟨h1, h2, h3⟩ := ih (min a y)
      rw [List.foldl_cons]
      refine ⟨by omega, fun x hx => ?_, ?_⟩
      · rcases List.mem_cons.mp hx with rfl | hx
        · omega
        · exact h2 x hx
      · rcases h3 with h3 | h3
        · rw [h3]
          rcases Int.le_total a y with q | q
          · left; exact Int.min_eq_left q
          · right; rw [Int.min_eq_right q]; exact List.mem_cons_self
        · exact .inr (List.mem_cons_of_mem _ h3)
  cases l with
  | nil => exact absurd rfl h
  | cons a l =>
    obtain ⟨h1, h2, h3⟩ := key l a
    refine ⟨?_, fun x hx => ?_⟩
    · rcases h3 with h3 | h3
      · show l.foldl min a ∈ a :: l
        rw [h3]
        exact List.mem_cons_self
      · exact List.mem_cons_of_mem _ h3
    · rcases List.mem_cons.mp hx with rfl | hx
      · exact h1
      · exact h2 x hx
theorem maxI_unique {l : List Int} {m : Int} (h : m ∈ l) (hm : ∀ x ∈ l, x ≤ m) : maxI l = m := by
  have := maxI_spec (l := l) (by rintro rfl; cases h)
  have h1 := hm _ this.1
  have h2 := this.2 _ h
  omega
theorem maxG_ints {v : Val} {ns : List Int} {st : Sto} (h : seqOf v st = some (ns.map Val.int)) (hn : ns ≠ []) : maxG v st = some (.int (maxI ns)) := by
  unfold maxG
  simp only [h, Option.bind, intsOf_map]
  cases ns with
  | nil => exact absurd rfl hn
  | cons a l => rfl
theorem minG_ints {v : Val} {ns : List Int} {st : Sto} (h : seqOf v st = some (ns.map Val.int)) (hn : ns ≠ []) : minG v st = some (.int (minI ns)) := by
  unfold minG
  simp only [h, Option.bind, intsOf_map]
  cases ns with
  | nil => exact absurd rfl hn
  | cons a l => rfl
/-- the greatest one, or the least -/
def extI (up : Bool) (r : List Int) : Int := if up = true then maxI r else minI r
theorem ext_mem {up : Bool} {r : List Int} (h : r ≠ []) : extI up r ∈ r := by
  unfold extI
  split
  · exact (maxI_spec h).1
  · exact (minI_spec h).1
theorem kept_pull {r : List Int} {k : Nat} (hk : k + 1 ≤ r.length) (up : Bool) : keptI r (k + 1) up = extI up r + keptI (r.erase (extI up r)) k up := by
  have hr : r ≠ [] := by rintro rfl; simp at hk
  have hm := ext_mem (up := up) hr
  have hl : (r.erase (extI up r)).length = r.length - 1 := List.length_erase_of_mem hm
  have hp : r.Perm (extI up r :: r.erase (extI up r)) := List.perm_cons_erase hm
  cases up with
  | true =>
    have hs : sortI r = sortI (r.erase (extI true r)) ++ [extI true r] := by
      refine List.Perm.eq_of_pairwise (le := fun a b : Int => a ≤ b) (fun a b _ _ h1 h2 => by omega) (sortI_sorted r) ?_ ?_
      · refine List.pairwise_append.mpr ⟨sortI_sorted _, List.pairwise_singleton _ _, fun a ha b hb => ?_⟩
        have hb : b = extI true r := by simpa using hb
        rw [hb]
        exact (maxI_spec hr).2 a (List.mem_of_mem_erase (mem_sortI.mp ha))
      · refine (sortI_perm r).trans (hp.trans ?_)
        refine (List.Perm.cons _ (sortI_perm _).symm).trans ?_
        exact (List.perm_append_comm (l₁ := [extI true r]))
    simp only [keptI, if_true, hs, hl]
    rw [List.drop_append_of_le_length (by rw [sortI_len, hl]; omega), List.sum_append, show r.length - (k + 1) = r.length - 1 - k by omega]
    simp
    omega
  | false =>
    have hs : sortI r = extI false r :: sortI (r.erase (extI false r)) := by
      refine List.Perm.eq_of_pairwise (le := fun a b : Int => a ≤ b) (fun a b _ _ h1 h2 => by omega) (sortI_sorted r) ?_ ?_
      · refine List.pairwise_cons.mpr ⟨fun a ha => ?_, sortI_sorted _⟩
        exact (minI_spec hr).2 a (List.mem_of_mem_erase (mem_sortI.mp ha))
      · exact (sortI_perm r).trans (hp.trans (List.Perm.cons _ (sortI_perm _).symm))
    simp only [keptI, Bool.false_eq_true, if_false]
    rw [hs, List.take_succ_cons, List.sum_cons]
theorem kept_zero (r : List Int) (up : Bool) : keptI r 0 up = 0 := by
  cases up with
  | true => simp [keptI, List.drop_eq_nil_of_le]
  | false => simp [keptI]
theorem kept_all (r : List Int) (up : Bool) : keptI r r.length up = r.sum := by
  cases up with
  | true => simp [keptI, perm_sum (sortI_perm r)]
  | false =>
    simp only [keptI, Bool.false_eq_true, if_false]
    rw [List.take_of_length_le (by simp), perm_sum (sortI_perm r)]
/-- a walk over a book that is a cell -/
theorem compD_cell {i j l : Nat} {elt : ME} {ρ : Rho} {st : Sto} {bk : List (Int × Int)} (h1 : ρ[i]? = some (some (.ref l))) (h2 : st[l]? = some (.dic (toK bk))) (hn : (bk.map (·.1)).Nodup) (g : Int → Int → Val)
    (hg : ∀ p ∈ bk, elt ((wipeR ρ [j]).set j (some (.int p.1))) (st.set l (.rod (toK bk))) = .ok (g p.1 p.2) (st.set l (.rod (toK bk)))) :
    mCompD i (Tg.name j) mTrue elt [j] ρ st = .ok (.lst (bk.map fun p => g p.1 p.2)) st := by
  unfold mCompD
  rw [h1]
  dsimp only
  rw [h2]
  dsimp only
  have key := comp_pure (t := Tg.name j) (cond := mTrue) (elt := elt) (ρ := wipeR ρ [j]) (st := st.set l (.rod (toK bk))) none trivial (fun v => match v with | .int t => g t ((getI bk t).getD 0) | v => v) ((bk.map (·.1)).map Val.int) [] (fun v hv => by
    obtain ⟨t, ht, rfl⟩ := List.mem_map.mp hv
    obtain ⟨p, hp, rfl⟩ := List.mem_map.mp ht
    refine ⟨_, rfl, rfl, ?_⟩
    rw [hg p hp]
    dsimp only
    rw [nd_get hn p hp]
    rfl)
  simp only [mComp_ap, keysW, show (toK bk).map (fun kv => keyV kv.1) = (bk.map (·.1)).map Val.int by simp [keyV], key, Res.thawC]
  have e : (st.set l (.rod (toK bk))).set l (.dic (toK bk)) = st := by
    rw [List.set_set]
    obtain ⟨q1, q2⟩ := List.getElem?_eq_some_iff.mp h2
    rw [← q2, List.set_getElem_self]
  rw [e]
  congr 2
  rw [List.nil_append, List.map_map, List.map_map]
  refine List.map_congr_left fun p hp => ?_
  simp only [Function.comp]
  rw [nd_get hn p hp]
  rfl
end DL

namespace DL
open PySem PySem.Spec PyProof.Rows L2
/-! ### rolls, whose tuples are known to have no dict -/
def vN : List Int → Val
  | [] => .tup []
  | x :: r => .tpl ((x :: r).map Val.int)
abbrev vRN (rows : List (List Int)) : Val := .lst (rows.map vN)
theorem vN_of {r : List Int} (h : r ≠ []) : vN r = .tpl (r.map Val.int) := by
  cases r with
  | nil => exact absurd rfl h
  | cons x r => rfl
theorem addN_row (u : List Int) (f : Int) (st : Sto) (h : u.length + 1 ≤ sizeLine) : addNF (vN u) (.tpl [.int f]) st = .ok (vN (u ++ [f])) st := by
  cases u with
  | nil => rfl
  | cons x u =>
    simp only [vN, List.map_cons, addNF]
    rw [if_pos (by simpa using h)]
    simp [vN]
theorem enc_vN (r : List Int) : (vN r).enc = .tuple (r.map PyData.int) := by
  cases r with
  | nil => rfl
  | cons x r => simp [vN, Val.enc, Val.data, Val.datas]
theorem data_vN (r : List Int) : (vN r).data = some (.tuple (r.map PyData.int)) := by
  cases r with
  | nil => rfl
  | cons x r =>
    have := datas_ints (x :: r)
    simp only [vN, Val.data, this, Option.map]
theorem datas_vN : ∀ rows : List (List Int), Val.datas (rows.map vN) = some (rows.map fun r => .tuple (r.map PyData.int))
  | [] => rfl
  | r :: rows => by simp only [List.map_cons, Val.datas, data_vN, datas_vN rows]
theorem sortV_vN (rows : List (List Int)) : sortV (rows.map vN) = (sortR rows).map vN := by
  unfold sortV sortR
  symm
  apply List.map_mergeSort
  intro a _ b _
  have := congrFun (congrFun (PySem.W.dataLe_rows (fun b : List Int => b)) a) b
  rw [← this]
  simp only [PySem.W.dataLe, PySem.W.sortLe, enc_vN, PySem.W.keyToks]
theorem sortOk_vN {rows : List (List Int)} (h : ∀ r ∈ rows, r ≠ []) : SortOk (rows.map vN) := by
  obtain ⟨ds, h1, h2, h3, h4⟩ := sortOk_rows h
  rw [datas_rows] at h1
  cases h1
  exact ⟨_, datas_vN rows, h2, h3, h4⟩
theorem cl_vN {n : Nat} (r : List Int) : ClV n (vN r) := by
  cases r with
  | nil => exact .tup .nil
  | cons x r => exact .tpl (cl_ints (x :: r))
theorem cl_rowsN {n : Nat} : ∀ rows : List (List Int), ClL n (rows.map vN)
  | [] => .nil
  | r :: rows => .cons (cl_vN r) (cl_rowsN rows)
theorem seq_vN (r : List Int) (st : Sto) : seqOf (vN r) st = some (r.map Val.int) := by
  cases r <;> rfl
/-- rows as a value, or as a list that was made behind the base -/
def LIsT (base : Sto) (v : Val) (rows : List (List Int)) (g : List Cell) : Prop := v = vRN rows ∨ ∃ l, v = .ref l ∧ base.length ≤ l ∧ (base ++ g)[l]? = some (.lst (rows.map vN))
theorem rolls_inN (d : Val) (rv : Val) (die : List Int) (l : Nat) (g : Option (Nat × Cell)) (base : Sto) (hl : l = base.length) (hg : Guard base g) (hd : die.length ≤ 8) : ∀ (us acc : List (List Int)) (x y : Option Val), acc.length + 8 * us.length ≤ 1000000 → (∀ u ∈ us, u.length ≤ 10) →
    ∃ x' y', loop (Tg.name 4) (mDrop (mMeth chkL extendF (mVar 3) (mSeqA (mVal (mComp (mItT (mVar 2)) (Tg.name 5) mTrue (mOp addNF (mVar 4) (mTupN (mSeqA (mVar 5) mNilA))) [5])) mNilA))) g (us.map vN)
      [some d, some rv, some (vI die), some (.ref l), x, y] (base ++ [.lst (acc.map vN)]) = .next [some d, some rv, some (vI die), some (.ref l), x', y'] (base ++ [.lst ((acc ++ grow us die).map vN)]) := by
  have hgu : ∀ c : Cell, Guard (base ++ [c]) g := fun c => by
    cases g with
    | none => trivial
    | some p =>
      obtain ⟨j, e⟩ := p
      have hg : base[j]? = some e := hg
      show (base ++ [c])[j]? = some e
      rw [List.getElem?_append_left (List.getElem?_eq_some_iff.mp hg).1]
      exact hg
  intro us
  induction us with
  | nil => intro acc x y _ _; exact ⟨x, y, by simp [loop, hgu, grow]⟩
  | cons u us ih =>
    intro acc x y hz hu
    simp only [List.length_cons] at hz
    obtain ⟨x', y', ih⟩ := ih (acc ++ die.map fun f => u ++ [f]) (some (vN u)) y (by simp; omega) (fun v hv => hu v (List.mem_cons_of_mem _ hv))
    refine ⟨x', y', ?_⟩
    have hc : ∀ st', compLoop (Tg.name 5) mTrue (mOp addNF (mVar 4) (mTupN (mSeqA (mVar 5) mNilA))) none [some d, some rv, some (vI die), some (.ref l), some (vN u), none] (die.map Val.int) [] st' = .ok ((die.map fun f => u ++ [f]).map vN) st' := fun st' => by
      refine (comp_pure none trivial (fun v => match v with | .int f => vN (u ++ [f]) | v => v) (die.map Val.int) [] fun v hv => ?_).trans (by simp)
      obtain ⟨f, _, rfl⟩ := List.mem_map.mp hv
      refine ⟨[some d, some rv, some (vI die), some (.ref l), some (vN u), some (.int f)], rfl, rfl, ?_⟩
      have h1 := hu u List.mem_cons_self
      have h2 : u.length + 1 ≤ sizeLine := by have : sizeLine = 2 ^ 24 := rfl; omega
      simp [addN_row u f st' h2, show (1 : Nat) ≤ sizeLine by decide]
    have h2 : acc.length + die.length ≤ sizeLine := by have : sizeLine = 2 ^ 24 := rfl; omega
    rw [List.map_cons]
    subst hl
    simp only [loop, hgu, if_true, Tg.asg]
    simp [chkL, readL, lstAt, itemsT, wipeR, hc, isLD, Val.ofCell, extendF, DL.listOf, h2, -List.map_map]
    rw [show grow (u :: us) die = (die.map fun f => u ++ [f]) ++ grow us die from rfl]
    simpa [List.append_assoc] using ih
theorem rolls_outN (d : Val) (rows0 : List (List Int)) (base : Sto) : ∀ (as rows : List (List Int)) (rv : Val) (g : List Cell) (x2 x3 x4 x5 : Option Val), LIsT base rv rows g → rows.length * 8 ^ as.length ≤ 100000 → (∀ u ∈ rows, u.length + as.length ≤ 10) → (∀ a ∈ as, a.length ≤ 8) →
    ∃ rv' g' x2' x3' x4' x5', loop (Tg.name 2) (mSeq (mSet 3 (mNew (mLst mNilA))) (mSeq (mFor (mItL (mVar 1)) (Tg.name 4) (mDrop (mMeth chkL extendF (mVar 3) (mSeqA (mVal (mComp (mItT (mVar 2)) (Tg.name 5) mTrue (mOp addNF (mVar 4) (mTupN (mSeqA (mVar 5) mNilA))) [5])) mNilA)))) (mSet 1 (mVar 3)))) none (as.map vI)
      [some d, some rv, x2, x3, x4, x5] (base ++ g) = .next [some d, some rv', x2', x3', x4', x5'] (base ++ g') ∧ LIsT base rv' (as.foldl grow rows) g' := by
  intro as
  induction as with
  | nil => intro rows rv g x2 x3 x4 x5 h _ _ _; exact ⟨rv, g, x2, x3, x4, x5, by simp [loop, Guard], h⟩
  | cons a as ih =>
    intro rows rv g x2 x3 x4 x5 h hz hr ha
    simp only [List.length_cons] at hz hr
    have ha1 := ha a List.mem_cons_self
    have hp : 1 ≤ 8 ^ as.length := Nat.pos_of_ne_zero (by simp)
    have hz1 : rows.length * 8 ≤ 100000 := by
      refine Nat.le_trans ?_ hz
      refine Nat.mul_le_mul_left _ ?_
      rw [Nat.pow_succ]
      omega
    have hz2 : (grow rows a).length * 8 ^ as.length ≤ 100000 := by
      rw [grow_len]
      refine Nat.le_trans ?_ hz
      rw [Nat.pow_succ, Nat.mul_comm (8 ^ as.length) 8, ← Nat.mul_assoc]
      exact Nat.mul_le_mul_right _ (Nat.mul_le_mul_left _ ha1)
    obtain ⟨gd, e1, e2⟩ : ∃ gd, itemsL rv (base ++ g ++ [.lst []]) = .ok ⟨rows.map vN, gd⟩ (base ++ g ++ [.lst []]) ∧ Guard (base ++ g) gd := by
      rcases h with rfl | ⟨l, rfl, _, hl⟩
      · exact ⟨none, rfl, trivial⟩
      · refine ⟨some (l, .lst (rows.map vN)), ?_, hl⟩
        unfold itemsL
        dsimp only
        rw [List.getElem?_append_left (List.getElem?_eq_some_iff.mp hl).1, hl]
    obtain ⟨y4, y5, e3⟩ := rolls_inN d rv a (base ++ g).length gd (base ++ g) rfl e2 ha1 rows [] x4 x5 (by simp; omega) (fun u hu => by have := hr u hu; omega)
    obtain ⟨rv', g', z2, z3, z4, z5, e4, e5⟩ := ih (grow rows a) (.ref (base ++ g).length) (g ++ [.lst ((grow rows a).map vN)]) (some (vI a)) (some (.ref (base ++ g).length)) y4 y5
      (.inr ⟨_, rfl, by simp, by rw [← List.append_assoc]; simp⟩) hz2
      (fun u hu => by
        simp only [grow, List.mem_flatMap, List.mem_map] at hu
        obtain ⟨q, hq, f, _, rfl⟩ := hu
        have := hr q hq
        simp
        omega)
      (fun b hb => ha b (List.mem_cons_of_mem _ hb))
    refine ⟨rv', g', z2, z3, z4, z5, ?_, e5⟩
    rw [List.map_cons]
    simp only [loop, Guard, if_true, Tg.asg]
    simp only [List.map_nil, List.nil_append] at e3
    have e1' : itemsL rv (base ++ (g ++ [.lst []])) = .ok ⟨rows.map vN, gd⟩ (base ++ (g ++ [.lst []])) := by rw [← List.append_assoc]; exact e1
    simp only [List.length_append, List.append_assoc] at e3 e4
    simp [e1', e3, e4]


def P_rollsN : List Val → Out
  | [v] => if saneDice v = true then (match diceOf v with
    | none => .err "NoDice"
    | some ds => .val (vRN (rollsL ds))) else .no
  | _ => .no
/-! ### who has the greatest face alone -/
def topI (r : List Int) : Int := maxI r
def soleB (r : List Int) : Bool := decide (r.count (maxI r) = 1)
/-- how often the i-th one is alone -/
def aloneN (rows : List (List Int)) (i : Nat) : Nat := (rows.filter fun r => soleB r && decide (r.idxOf (maxI r) = i)).length
def aloneL (ds : List (List Int)) : List Nat := (List.range ds.length).map (aloneN (rollsL ds))
def sharedN (rows : List (List Int)) : Nat := (rows.filter fun r => decide (1 < r.count (maxI r))).length
abbrev fracL (cs : List Nat) (n : Nat) : Val := .lst (cs.map fun c => vI (fracI c n))
abbrev F_aloneP : List Val → Out := P_asked fun ds => fracL (aloneL ds) (rollsL ds).length
abbrev F_alone : FV := pureF (P_asked fun ds => fracL (aloneL ds) (rollsL ds).length)
abbrev F_shared : FV := pureF (P_asked fun ds => vI (fracI (sharedN (rollsL ds)) (rollsL ds).length))
theorem max_row {r : List Int} (h : r ≠ []) (st : Sto) : maxG (vN r) st = some (.int (maxI r)) := maxG_ints (seq_vN r st) h
theorem count_row {r : List Int} (h : r ≠ []) (k : Int) (st : Sto) : countTF (vN r) [.int k] st = .ok (.int (r.count k : Nat)) st := by
  rw [vN_of h]
  simp only [countTF, intsOf_map]
theorem index_row {r : List Int} (h : r ≠ []) {k : Int} (hk : k ∈ r) (st : Sto) : indexTF (vN r) [.int k] st = .ok (.int (r.idxOf k : Nat)) st := by
  rw [vN_of h]
  simp only [indexTF, intsOf_map]
  rw [if_pos hk]
theorem chk_row {r : List Int} (h : r ≠ []) (st : Sto) : chkT (vN r) st = true := by
  rw [vN_of h]
  rfl
end DL

namespace DL
open PySem PySem.Spec PyProof.Rows L2
/-! ### ranges -/
def rngI (lo : Int) (n : Nat) : List Int := (List.range n).map fun i => lo + (i : Nat)
theorem rng_ints (lo : Int) (n : Nat) : rng lo n = (rngI lo n).map Val.int := by simp [rng, rngI]
theorem mem_rngI {lo x : Int} {n : Nat} : x ∈ rngI lo n ↔ lo ≤ x ∧ x < lo + n := by
  simp only [rngI, List.mem_map, List.mem_range]
  constructor
  · rintro ⟨i, hi, rfl⟩; omega
  · intro h; exact ⟨(x - lo).toNat, by omega, by omega⟩
theorem mRng2_ap {a b : ME} {i j : Int} {ρ : Rho} {st st1 st2 : Sto} (e1 : a ρ st = .ok (.int i) st1) (e2 : b ρ st1 = .ok (.int j) st2) (h : -1000000 ≤ i ∧ i ≤ 1000000 ∧ -1000000 ≤ j ∧ j ≤ 1000000) : mRng2 a b ρ st = .ok ⟨(rngI i (j - i).toNat).map Val.int, none⟩ st2 := by
  unfold mRng2
  simp only [e1, e2, Res.bind_ok]
  rw [if_pos h, rng_ints]
/-! ### the greatest common part, by trying -/
theorem gcd_by_trying {u d : Nat} (hu : 0 < u) (hd : 0 < d) (L : List Int) (hL : ∀ k : Int, k ∈ L ↔ (1 ≤ k ∧ k ≤ min u d ∧ (u : Int) % k = 0 ∧ (d : Int) % k = 0)) : maxI (L ++ [1]) = (Nat.gcd u d : Nat) := by
  have hg : 0 < Nat.gcd u d := Nat.gcd_pos_of_pos_left _ hu
  refine maxI_unique ?_ fun x hx => ?_
  · refine List.mem_append.mpr (.inl ((hL _).mpr ⟨by omega, ?_, ?_, ?_⟩))
    · have h1 := Nat.le_of_dvd hu (Nat.gcd_dvd_left u d)
      have h2 := Nat.le_of_dvd hd (Nat.gcd_dvd_right u d)
      omega
    · rw [← Int.natCast_emod, Nat.mod_eq_zero_of_dvd (Nat.gcd_dvd_left u d)]; rfl
    · rw [← Int.natCast_emod, Nat.mod_eq_zero_of_dvd (Nat.gcd_dvd_right u d)]; rfl
  · rcases List.mem_append.mp hx with hx | hx
    · obtain ⟨h1, h2, h3, h4⟩ := (hL x).mp hx
      obtain ⟨k, rfl⟩ := Int.eq_ofNat_of_zero_le (show 0 ≤ x by omega)
      have d1 : k ∣ u := Nat.dvd_of_mod_eq_zero (by have := Int.natCast_emod u k; omega)
      have d2 : k ∣ d := Nat.dvd_of_mod_eq_zero (by have := Int.natCast_emod d k; omega)
      have := Nat.le_of_dvd hg (Nat.dvd_gcd d1 d2)
      omega
    · have : x = 1 := by simpa using hx
      omega
def P__law_part : List Val → Out
  | [.int u, .int d] => if 0 ≤ u ∧ 0 < d ∧ u ≤ 900000 ∧ d ≤ 900000 then .val (vI (fracI u.toNat d.toNat)) else .no
  | _ => .no
abbrev F__law_part : FV := pureF P__law_part
theorem lpart_ok {c n : Nat} (hn : 0 < n) (h1 : c ≤ 900000) (h2 : n ≤ 900000) (st : Sto) : F__law_part [.int (c : Nat), .int (n : Nat)] st = .ok (vI (fracI c n)) st := by
  simp only [pureF, P__law_part]
  rw [if_pos ⟨by omega, by omega, by omega, by omega⟩]
  rfl
/-! ### places -/
theorem places_of_k (k : Int) : ∀ u : List Int, ((List.range u.length).filter fun i => decide (u[i]? = some k)).length = u.count k ∧ (k ∈ u → ((List.range u.length).filter fun i => decide (u[i]? = some k)).head? = some (u.idxOf k))
  | [] => ⟨rfl, fun h => nomatch h⟩
  | x :: u => by
    obtain ⟨h1, h2⟩ := places_of_k k u
    have e : ((List.range (x :: u).length).filter fun i => decide ((x :: u)[i]? = some k)) = (if x = k then [0] else []) ++ ((List.range u.length).filter fun i => decide (u[i]? = some k)).map Nat.succ := by
      rw [List.length_cons, List.range_succ_eq_map, List.filter_cons, List.filter_map]
      by_cases q : x = k
      · simp [q, Function.comp_def]
      · simp [q, Function.comp_def]
    rw [e]
    by_cases q : x = k
    · subst q
      simp [h1]
    · simp only [if_neg q, List.nil_append, List.length_map, h1, List.count_cons]
      refine ⟨by simp [q], fun hk => ?_⟩
      have hk' : k ∈ u := by
        rcases List.mem_cons.mp hk with z | z
        · exact absurd z.symm q
        · exact z
      rw [List.head?_map, h2 hk', List.idxOf_cons]
      have : (x == k) = false := by simpa using q
      simp [this]
theorem alone_perm {rows rows' : List (List Int)} (h : rows.Perm rows') (i : Nat) : aloneN rows i = aloneN rows' i := (h.filter _).length_eq
theorem shared_perm {rows rows' : List (List Int)} (h : rows.Perm rows') : sharedN rows = sharedN rows' := (h.filter _).length_eq
theorem nbs_fracs (n : Nat) : ∀ cs : List Nat, Val.nbs (cs.map fun c => vI (fracI c n)) = true ∧ Val.deps (cs.map fun c => vI (fracI c n)) ≤ 1
  | [] => ⟨rfl, by simp [Val.deps]⟩
  | c :: cs => by
    obtain ⟨h1, h2⟩ := nbs_fracs n cs
    refine ⟨?_, ?_⟩
    · simp only [List.map_cons, Val.nbs, Val.nb, nbs_ints, h1, Bool.and_self]
    · simp only [List.map_cons, Val.deps, Val.dep, deps_ints]
      omega
theorem fracL_nb (cs : List Nat) (n : Nat) : (fracL cs n).nb = true ∧ (fracL cs n).dep ≤ 64 := by
  obtain ⟨h1, h2⟩ := nbs_fracs n cs
  refine ⟨?_, ?_⟩
  · simpa only [fracL, Val.nb] using h1
  · simp only [fracL, Val.dep]
    omega
theorem neF_same {v : Val} (h1 : v.nb = true) (h2 : v.dep ≤ 64) (st : Sto) : neF v v st = .ok (.bl false) st := by
  rw [neF_nb h1 h1 h2 h2]
  simp
theorem eqF_same {v : Val} (h1 : v.nb = true) (h2 : v.dep ≤ 64) (st : Sto) : eqF v v st = .ok (.bl true) st := by
  rw [eqF_nb h1 h1 h2 h2]
  simp
/-- a fraction, once more multiplied -/
theorem frac_times (c n : Nat) (hn : 0 < n) : ∃ p q : Nat, fracI c n = [(p : Int), (q : Int)] ∧ 0 < q ∧ q ≤ n ∧ p * n = c * q := by
  obtain ⟨p, q, g, e, hg, hq, e1, e2, e3⟩ := frac_spec (u := c) hn
  refine ⟨p, q, e, hq, by rw [← e2]; exact Nat.le_mul_of_pos_right _ hg, ?_⟩
  rw [← e1, ← e2]
  grind
end DL

namespace DL
open PySem PySem.Spec PyProof.Rows L2
/-! ### rows, die by die -/
def prodR : List (List Int) → List (List Int)
  | [] => [[]]
  | d :: ds => d.flatMap fun f => (prodR ds).map fun r => f :: r
theorem fold_prod : ∀ (ds rows : List (List Int)), ds.foldl grow rows = rows.flatMap fun r => (prodR ds).map fun q => r ++ q
  | [], rows => by
    simp only [List.foldl_nil, prodR, List.map_cons, List.map_nil, List.append_nil]
    induction rows with
    | nil => rfl
    | cons r rows ih => rw [List.flatMap_cons, ← ih]; rfl
  | d :: ds, rows => by
    rw [List.foldl_cons, fold_prod ds]
    unfold grow
    rw [List.flatMap_assoc]
    congr 1
    funext r
    rw [List.flatMap_map, prodR, List.map_flatMap]
    congr 1
    funext f
    rw [List.map_map]
    congr 1
    funext q
    simp
theorem rows_prod (ds : List (List Int)) : rowsL ds = prodR ds := by
  unfold rowsL
  rw [fold_prod]
  simp
def cntR (T : List Int → Bool) (rows : List (List Int)) : Nat := (rows.filter T).length
theorem cntR_flat (T : List Int → Bool) (d : List Int) (rows : List (List Int)) : cntR T (d.flatMap fun f => rows.map fun r => f :: r) = (d.map fun f => cntR (fun r => T (f :: r)) rows).sum := by
  unfold cntR
  induction d with
  | nil => rfl
  | cons f d ih =>
    rw [List.flatMap_cons, List.filter_append, List.length_append, ih, List.map_cons, List.sum_cons, List.filter_map, List.length_map]
    rfl
theorem sum_swap {α β : Type} (g : α → β → Nat) : ∀ (l : List α) (m : List β), (l.map fun a => (m.map fun b => g a b).sum).sum = (m.map fun b => (l.map fun a => g a b).sum).sum
  | [], m => by
    have : (m.map fun b => (([] : List α).map fun a => g a b).sum).sum = 0 := by
      induction m with
      | nil => rfl
      | cons b m ih => rw [List.map_cons, List.sum_cons, ih]; rfl
    rw [this]
    rfl
  | a :: l, m => by
    rw [List.map_cons, List.sum_cons, sum_swap g l m]
    induction m with
    | nil => rfl
    | cons b m ih => simp only [List.map_cons, List.sum_cons] at ih ⊢; omega
/-- one place told apart -/
theorem cnt_place : ∀ (as : List (List Int)) (d : List Int) (bs : List (List Int)) (T : List Int → Int → Bool), cntR (fun r => T (r.eraseIdx as.length) (r.getD as.length 0)) (prodR (as ++ d :: bs)) = (d.map fun f => cntR (fun q => T q f) (prodR (as ++ bs))).sum
  | [], d, bs, T => by
    rw [List.nil_append, List.nil_append, prodR, cntR_flat]
    rfl
  | a :: as, d, bs, T => by
    rw [List.cons_append, List.cons_append, prodR, cntR_flat]
    have : (a.map fun f => cntR (fun r => T ((f :: r).eraseIdx (a :: as).length) ((f :: r).getD (a :: as).length 0)) (prodR (as ++ d :: bs))) = a.map fun x => (d.map fun f => cntR (fun q => T (x :: q) f) (prodR (as ++ bs))).sum := by
      refine List.map_congr_left fun x _ => ?_
      exact cnt_place as d bs fun q f => T (x :: q) f
    rw [this, sum_swap]
    congr 1
    refine List.map_congr_left fun f _ => ?_
    rw [prodR, cntR_flat]
/-- how often a face of d is greater than all of the others -/
def below (f : Int) (d : List Int) : Nat := (d.filter fun g => decide (g < f)).length
def soloK (d : List Int) (rest : List (List Int)) : Nat := (d.map fun f => prodN (below f) rest).sum
theorem prodN_perm {f : List Int → Nat} {ds es : List (List Int)} (h : ds.Perm es) : prodN f ds = prodN f es := by
  induction h with
  | nil => rfl
  | cons d _ ih => simp only [prodN, ih]
  | swap c d l => simp only [prodN]; rw [← Nat.mul_assoc, ← Nat.mul_assoc, Nat.mul_comm (f d)]
  | trans _ _ h1 h2 => exact h1.trans h2
theorem soloK_perm {d : List Int} {r r' : List (List Int)} (h : r.Perm r') : soloK d r = soloK d r' := by
  unfold soloK
  congr 1
  exact List.map_congr_left fun f _ => prodN_perm h
theorem sole_at {r : List Int} (hr : r ≠ []) (i : Nat) : (soleB r && decide (r.idxOf (maxI r) = i)) = (decide (i < r.length) && (r.eraseIdx i).all fun g => decide (g < r.getD i 0)) := by
  obtain ⟨hm, hx⟩ := maxI_spec hr
  have hix : r.idxOf (maxI r) < r.length := List.idxOf_lt_length_of_mem hm
  have hat : r[r.idxOf (maxI r)] = maxI r := List.getElem_idxOf hix
  rw [Bool.eq_iff_iff]
  simp only [Bool.and_eq_true, decide_eq_true_eq, List.all_eq_true, soleB]
  constructor
  · rintro ⟨h1, rfl⟩
    refine ⟨hix, fun g hg => ?_⟩
    have e : r.getD (r.idxOf (maxI r)) 0 = maxI r := by rw [List.getD, List.getElem?_eq_getElem hix]; exact hat
    rw [e]
    have hgr : g ∈ r := List.mem_of_mem_eraseIdx hg
    rcases Int.lt_or_eq_of_le (hx g hgr) with q | q
    · exact q
    · exfalso
      rw [q] at hg
      have p := List.perm_cons_erase hm
      have e2 : r.eraseIdx (r.idxOf (maxI r)) = r.erase (maxI r) := by rw [List.erase_eq_eraseIdx_of_idxOf rfl]
      rw [e2] at hg
      have c1 := p.count_eq (maxI r)
      rw [List.count_cons_self] at c1
      have c2 : 0 < (r.erase (maxI r)).count (maxI r) := List.count_pos_iff.mpr hg
      omega
  · rintro ⟨hi, ha⟩
    have e : r.getD i 0 = r[i] := by rw [List.getD, List.getElem?_eq_getElem hi]; rfl
    rw [e] at ha
    have hp : r.Perm (r[i] :: r.eraseIdx i) := by
      have e1 : r = r.take i ++ r[i] :: r.drop (i + 1) := by rw [← List.drop_eq_getElem_cons hi, List.take_append_drop]
      rw [List.eraseIdx_eq_take_drop_succ]
      exact (List.Perm.of_eq e1).trans List.perm_middle
    have hmax : maxI r = r[i] := maxI_unique (List.getElem_mem hi) fun x hx => by
      rcases List.mem_cons.mp (hp.mem_iff.mp hx) with rfl | h
      · exact Int.le_refl _
      · have := ha x h; omega
    have hnot : r[i] ∉ r.eraseIdx i := fun h => by have := ha _ h; omega
    have hc : r.count (maxI r) = 1 := by
      rw [hmax, hp.count_eq, List.count_cons_self, List.count_eq_zero.mpr hnot]
    refine ⟨hc, ?_⟩
    have hj : ∀ j (hj : j < r.length), r[j] = r[i] → j = i := fun j hj q => by
      rcases Classical.em (j = i) with z | z
      · exact z
      · exfalso
        refine hnot ?_
        rw [← q]
        rw [List.mem_eraseIdx_iff_getElem]
        exact ⟨j, hj, z, rfl⟩
    exact hj _ hix (hat.trans hmax)
theorem alone_at {ds : List (List Int)} {i : Nat} (hi : i < ds.length) : aloneN (rollsL ds) i = soloK ds[i] (ds.eraseIdx i) := by
  rw [alone_perm (rolls_perm ds), rows_prod]
  have e1 : ds = ds.take i ++ ds[i] :: ds.drop (i + 1) := by rw [← List.drop_eq_getElem_cons hi, List.take_append_drop]
  have e2 : ds.eraseIdx i = ds.take i ++ ds.drop (i + 1) := List.eraseIdx_eq_take_drop_succ _ _
  have hl : (ds.take i).length = i := by rw [List.length_take]; omega
  have key := cnt_place (ds.take i) ds[i] (ds.drop (i + 1)) fun q f => q.all fun g => decide (g < f)
  rw [hl, ← e1] at key
  unfold aloneN
  have hrl : ∀ r ∈ prodR ds, r.length = ds.length := fun r hr => by
    rw [← rows_prod] at hr
    exact rolls_row r ((rolls_perm ds).mem_iff.mpr hr)
  have : ((prodR ds).filter fun r => soleB r && decide (r.idxOf (maxI r) = i)).length = cntR (fun r => (r.eraseIdx i).all fun g => decide (g < r.getD i 0)) (prodR ds) := by
    unfold cntR
    congr 1
    refine List.filter_congr fun r hr => ?_
    have hlr := hrl r hr
    rw [sole_at (by rintro rfl; simp at hlr; omega), decide_eq_true (show i < r.length by omega), Bool.true_and]
  rw [this, key, soloK]
  congr 1
  refine List.map_congr_left fun f _ => ?_
  unfold cntR
  rw [← rows_prod, e2]
  have := rolls_all (fun g => decide (g < f)) (ds.take i ++ ds.drop (i + 1))
  rw [((rolls_perm _).filter _).length_eq] at this
  exact this
theorem aloneL_eq (ds : List (List Int)) : aloneL ds = (List.range ds.length).map fun i => soloK (ds.getD i []) (ds.eraseIdx i) := by
  unfold aloneL
  refine List.map_congr_left fun i hi => ?_
  have hi := List.mem_range.mp hi
  rw [alone_at hi, List.getD, List.getElem?_eq_getElem hi]
  rfl
/-- all together -/
theorem alone_shared {ds : List (List Int)} (h1 : 1 ≤ ds.length) : (aloneL ds).sum + sharedN (rollsL ds) = (rollsL ds).length := by
  have key : ∀ rows : List (List Int), (∀ u ∈ rows, u.length = ds.length ∧ u ≠ []) → ((List.range ds.length).map (aloneN rows)).sum + sharedN rows = rows.length := by
    intro rows
    induction rows with
    | nil =>
      intro _
      have : ((List.range ds.length).map (aloneN [])) = List.replicate ds.length 0 := by
        refine List.ext_getElem (by simp) fun i _ _ => ?_
        simp [aloneN]
      rw [this]
      simp [sharedN]
    | cons u rows ih =>
      intro hu
      have ih := ih fun w hw => hu w (List.mem_cons_of_mem _ hw)
      obtain ⟨hl, hn⟩ := hu u List.mem_cons_self
      have hm := (maxI_spec hn).1
      have hc : 0 < u.count (maxI u) := List.count_pos_iff.mpr hm
      have hx : u.idxOf (maxI u) < ds.length := by rw [← hl]; exact List.idxOf_lt_length_of_mem hm
      have one : ∀ (l : List Nat) (k : Nat) (f g : Nat → Nat), l.Nodup → (∀ i ∈ l, i ≠ k → f i = g i) → f k = g k + 1 → k ∈ l → (l.map f).sum = (l.map g).sum + 1 := by
        intro l
        induction l with
        | nil => intro k f g _ _ _ hk; cases hk
        | cons a l ih =>
          intro k f g hnd hfg hk hmem
          have hnd' := List.nodup_cons.mp hnd
          simp only [List.map_cons, List.sum_cons]
          by_cases q : a = k
          · subst q
            have : (l.map f) = l.map g := List.map_congr_left fun i hi => hfg i (List.mem_cons_of_mem _ hi) (by rintro rfl; exact hnd'.1 hi)
            rw [this, hk]
            omega
          · have hmem' : k ∈ l := by
              rcases List.mem_cons.mp hmem with z | z
              · exact absurd z.symm q
              · exact z
            rw [ih k f g hnd'.2 (fun i hi => hfg i (List.mem_cons_of_mem _ hi)) hk hmem', hfg a List.mem_cons_self q]
            omega
      by_cases hs : soleB u = true
      · have h2 : ¬ 1 < u.count (maxI u) := by
          have : u.count (maxI u) = 1 := by simpa [soleB] using hs
          omega
        have s1 : sharedN (u :: rows) = sharedN rows := by simp [sharedN, List.filter_cons, h2]
        have s2 := one (List.range ds.length) (u.idxOf (maxI u)) (aloneN (u :: rows)) (aloneN rows) List.nodup_range (fun i _ hi => by
          have : ¬ u.idxOf (maxI u) = i := fun q => hi q.symm
          simp [aloneN, List.filter_cons, this]) (by simp [aloneN, List.filter_cons, hs]) (List.mem_range.mpr hx)
        rw [s1, s2, List.length_cons]
        omega
      · have h2 : 1 < u.count (maxI u) := by
          have : ¬ u.count (maxI u) = 1 := by simpa [soleB] using hs
          omega
        have s1 : sharedN (u :: rows) = sharedN rows + 1 := by simp [sharedN, List.filter_cons, h2]
        rw [Bool.not_eq_true] at hs
        have s2 : (List.range ds.length).map (aloneN (u :: rows)) = (List.range ds.length).map (aloneN rows) := List.map_congr_left fun i _ => by simp [aloneN, List.filter_cons, hs]
        rw [s1, s2, List.length_cons]
        omega
  refine key (rollsL ds) fun u hu => ⟨rolls_row u hu, ?_⟩
  rintro rfl
  have := rolls_row [] hu
  simp at this
  omega
/-! pairs: each is greater, alike, less -/
theorem cnt_three (S T : List Int) : cntP Gt S T + cntP Eq' S T + cntP Lt S T = S.length * T.length := by
  unfold cntP
  induction S with
  | nil => simp
  | cons a S ih =>
    have : (T.filter (Gt a)).length + (T.filter (Eq' a)).length + (T.filter (Lt a)).length = T.length := by
      clear ih
      induction T with
      | nil => rfl
      | cons b T ih =>
        rcases Int.lt_trichotomy b a with q | q | q
        · have g1 : Gt a b = true := by simp [Gt, q]
          have g2 : Eq' a b = false := by simp [Eq']; omega
          have g3 : Lt a b = false := by simp [Lt]; omega
          simp only [List.filter_cons, g1, g2, g3, if_true, Bool.false_eq_true, if_false, List.length_cons]
          omega
        · have g1 : Gt a b = false := by simp [Gt]; omega
          have g2 : Eq' a b = true := by simp [Eq', q]
          have g3 : Lt a b = false := by simp [Lt]; omega
          simp only [List.filter_cons, g1, g2, g3, if_true, Bool.false_eq_true, if_false, List.length_cons]
          omega
        · have g1 : Gt a b = false := by simp [Gt]; omega
          have g2 : Eq' a b = false := by simp [Eq']; omega
          have g3 : Lt a b = true := by simp [Lt, q]
          simp only [List.filter_cons, g1, g2, g3, if_true, Bool.false_eq_true, if_false, List.length_cons]
          omega
    simp only [List.map_cons, List.sum_cons, List.length_cons, Nat.succ_mul]
    omega
theorem solo_two (c d : List Int) : soloK c [d] = cntP Gt c d := by
  unfold soloK cntP
  congr 1
  refine List.map_congr_left fun f _ => ?_
  simp only [prodN, below, Nat.mul_one]
  rfl
theorem alone_two (c d : List Int) : aloneL [c, d] = [cntP Gt c d, cntP Lt c d] := by
  have e : aloneL [c, d] = [soloK c [d], soloK d [c]] := by rw [aloneL_eq]; rfl
  rw [e, solo_two, solo_two]
  have : cntP Gt d c = cntP Lt c d := cnt_flip _ _ _
  rw [this]
theorem shared_two {c d : List Int} : sharedN (rollsL [c, d]) = cntP Eq' c d := by
  have h1 := alone_shared (ds := [c, d]) (by simp)
  have h2 := cnt_three c d
  rw [alone_two, rolls_count] at h1
  simp only [List.sum_cons, List.sum_nil, prodN, Nat.mul_one] at h1
  omega
end DL

namespace DL
open PySem PySem.Spec PyProof.Rows L2
/-! ### slices -/
theorem cut_drop (vs : List Val) {t : Nat} (h : t ≤ vs.length) : cutL vs (some (t : Int)) none = vs.drop t := by
  have e1 : HT.sIx vs.length 0 (some (t : Int)) = t := by rw [HT.sIx_nat]; omega
  simp only [cutL, e1, HT.sIx_none]
  exact List.take_of_length_le (by simp)
theorem cut_take (vs : List Val) {t : Nat} (h : t ≤ vs.length) : cutL vs none (some (t : Int)) = vs.take t := by
  have e1 : HT.sIx vs.length vs.length (some (t : Int)) = t := by rw [HT.sIx_nat]; omega
  simp only [cutL, e1, HT.sIx_none, List.drop_zero, Nat.sub_zero]
theorem cut_last (vs : List Val) (v : Val) : cutL (vs ++ [v]) none (some (-1)) = vs := by
  have e1 : HT.sIx (vs.length + 1) (vs.length + 1) (some (-1)) = vs.length := by
    unfold HT.sIx
    simp
    try omega
  simp only [cutL, List.length_append, List.length_singleton, e1, HT.sIx_none, List.drop_zero, Nat.sub_zero]
  simp
section
variable {ρ : Rho} {st : Sto} {i j : Nat} {vs : List Val} {t : Nat}
theorem sl_dropT (hi : ρ[i]? = some (some (.tup vs))) (hj : ρ[j]? = some (some (.int (t : Nat)))) (h : t ≤ vs.length) : mSlice (mVar i) (mPart (mVar j)) mNo ρ st = .ok (.tup (vs.drop t)) st :=
  mSlice_ap (v := .tup vs) (l := some (t : Int)) (h := none) (st1 := st) (st2 := st) (by simp [hi]) (by simp [hj]) rfl (by simp only [sliceG, cut_drop vs h])
theorem sl_takeT (hi : ρ[i]? = some (some (.tup vs))) (hj : ρ[j]? = some (some (.int (t : Nat)))) (h : t ≤ vs.length) : mSlice (mVar i) mNo (mPart (mVar j)) ρ st = .ok (.tup (vs.take t)) st :=
  mSlice_ap (v := .tup vs) (l := none) (h := some (t : Int)) (st1 := st) (st2 := st) (by simp [hi]) rfl (by simp [hj]) (by simp only [sliceG, cut_take vs h])
theorem sl_dropL (hi : ρ[i]? = some (some (.lst vs))) (hj : ρ[j]? = some (some (.int (t : Nat)))) (h : t ≤ vs.length) : mSlice (mVar i) (mPart (mVar j)) mNo ρ st = .ok (.lst (vs.drop t)) st :=
  mSlice_ap (v := .lst vs) (l := some (t : Int)) (h := none) (st1 := st) (st2 := st) (by simp [hi]) (by simp [hj]) rfl (by simp only [sliceG, readL, Option.map, cut_drop vs h])
theorem sl_takeL (hi : ρ[i]? = some (some (.lst vs))) (hj : ρ[j]? = some (some (.int (t : Nat)))) (h : t ≤ vs.length) : mSlice (mVar i) mNo (mPart (mVar j)) ρ st = .ok (.lst (vs.take t)) st :=
  mSlice_ap (v := .lst vs) (l := none) (h := some (t : Int)) (st1 := st) (st2 := st) (by simp [hi]) rfl (by simp [hj]) (by simp only [sliceG, readL, Option.map, cut_take vs h])
theorem sl_lastT {v : Val} (hi : ρ[i]? = some (some (.tup (vs ++ [v])))) : mSlice (mVar i) mNo (mPart (mUn negF (mC (.int 1)))) ρ st = .ok (.tup vs) st :=
  mSlice_ap (v := .tup (vs ++ [v])) (l := none) (h := some (-1)) (st1 := st) (st2 := st) (by simp [hi]) rfl (by simp [negF]) (by simp only [sliceG, cut_last])
theorem ix_lastL (vs : List Val) (v : Val) : ixF (.lst (vs ++ [v])) (.int (-1)) st = .ok v st := by
  have : ixN (vs ++ [v]).length (-1) = some vs.length := by
    unfold ixN
    rw [if_neg (by omega), if_pos (by simp; omega)]
    congr 1
    simp
    omega
  simp only [ixF, seqOf, atI, this, Option.bind]
  simp
end
theorem addF_tups {vs ws : List Val} (h : vs.length + ws.length ≤ 1000) (st : Sto) : addF (.tup vs) (.tup ws) st = .ok (.tup (vs ++ ws)) st := by
  simp only [addF]
  rw [if_pos (Nat.le_trans h (by decide))]
theorem addF_lsts {vs ws : List Val} (h : vs.length + ws.length ≤ 1000) (st : Sto) : addF (.lst vs) (.lst ws) st = .ok (.lst (vs ++ ws)) st := by
  simp only [addF, DL.listOf]
  rw [if_pos (Nat.le_trans h (by decide))]
/-! ### dice the other way about -/
theorem erase_perm {ds es : List (List Int)} (p : es.Perm ds) {i j : Nat} (hi : i < ds.length) (hj : j < es.length) (e : es[j] = ds[i]) : (es.eraseIdx j).Perm (ds.eraseIdx i) := by
  have q : ∀ (l : List (List Int)) (k : Nat) (hk : k < l.length), l.Perm (l[k] :: l.eraseIdx k) := fun l k hk => by
    have e1 : l = l.take k ++ l[k] :: l.drop (k + 1) := by rw [← List.drop_eq_getElem_cons hk, List.take_append_drop]
    rw [List.eraseIdx_eq_take_drop_succ]
    exact (List.Perm.of_eq e1).trans List.perm_middle
  have := (q es j hj).symm.trans (p.trans (q ds i hi))
  rw [e] at this
  exact (List.perm_cons _).mp this
theorem aloneL_get {ds : List (List Int)} {i : Nat} (hi : i < ds.length) : (aloneL ds)[i]? = some (soloK ds[i] (ds.eraseIdx i)) := by
  rw [aloneL_eq, List.getElem?_map, List.getElem?_range hi]
  simp only [Option.map]
  rw [List.getD, List.getElem?_eq_getElem hi]
  rfl
theorem aloneL_len (ds : List (List Int)) : (aloneL ds).length = ds.length := by simp [aloneL]
theorem aloneL_turn (ds : List (List Int)) (t : Nat) (ht : t ≤ ds.length) : aloneL (ds.drop t ++ ds.take t) = (aloneL ds).drop t ++ (aloneL ds).take t := by
  have hp : (ds.drop t ++ ds.take t).Perm ds := (List.perm_append_comm).trans (List.Perm.of_eq (List.take_append_drop t ds))
  have hlen : (ds.drop t ++ ds.take t).length = ds.length := hp.length_eq
  refine List.ext_getElem? fun j => ?_
  by_cases hj : j < ds.length
  · have hj' : j < (ds.drop t ++ ds.take t).length := by omega
    rw [aloneL_get hj']
    by_cases q : j < ds.length - t
    · have hi : t + j < ds.length := by omega
      rw [List.getElem?_append_left (by rw [List.length_drop, aloneL_len]; omega), List.getElem?_drop, aloneL_get hi]
      have e : (ds.drop t ++ ds.take t)[j] = ds[t + j] := by
        rw [List.getElem_append_left (by rw [List.length_drop]; omega), List.getElem_drop]
      rw [e, soloK_perm (erase_perm hp hi hj' e)]
    · have hi : j - (ds.length - t) < ds.length := by omega
      rw [List.getElem?_append_right (by rw [List.length_drop, aloneL_len]; omega), List.length_drop, aloneL_len, List.getElem?_take_of_lt (by omega), aloneL_get hi]
      have e : (ds.drop t ++ ds.take t)[j] = ds[j - (ds.length - t)] := by
        rw [List.getElem_append_right (by rw [List.length_drop]; omega), List.getElem_take]
        congr 1
        rw [List.length_drop]
      rw [e, soloK_perm (erase_perm hp hi hj' e)]
  · rw [List.getElem?_eq_none (by rw [aloneL_len]; omega), List.getElem?_eq_none (by rw [List.length_append, List.length_drop, List.length_take, aloneL_len]; omega)]
theorem aloneL_last (ds : List (List Int)) (d : List Int) : ∃ cs : List Nat, cs.length = ds.length ∧ aloneL (ds ++ [d]) = cs ++ [soloK d ds] := by
  refine ⟨(aloneL (ds ++ [d])).take ds.length, by rw [List.length_take, aloneL_len, List.length_append]; simp, ?_⟩
  have h1 : (aloneL (ds ++ [d])).drop ds.length = [soloK d ds] := by
    refine List.ext_getElem? fun j => ?_
    rw [List.getElem?_drop]
    cases j with
    | zero =>
      have := aloneL_get (ds := ds ++ [d]) (i := ds.length) (by simp)
      rw [Nat.add_zero, this]
      simp [List.eraseIdx_append_of_length_le]
    | succ j => rw [List.getElem?_eq_none (by rw [aloneL_len]; simp), List.getElem?_eq_none (by simp)]
  rw [← h1, List.take_append_drop]
theorem rolls_count_perm {ds es : List (List Int)} (p : ds.Perm es) : (rollsL ds).length = (rollsL es).length := by rw [rolls_count, rolls_count, prodN_perm p]
theorem below_mono {f g : Int} (h : f ≤ g) (d : List Int) : below f d ≤ below g d := by
  unfold below
  induction d with
  | nil => exact Nat.le_refl _
  | cons x d ih =>
    simp only [List.filter_cons]
    by_cases q : x < f
    · have : x < g := by omega
      simp [q, this, ih]
    · by_cases q2 : x < g
      · simp [q, q2]; omega
      · simp [q, q2, ih]
theorem prodN_mono {f g : List Int → Nat} (h : ∀ d, f d ≤ g d) : ∀ ds, prodN f ds ≤ prodN g ds
  | [] => Nat.le_refl _
  | d :: ds => Nat.mul_le_mul (h d) (prodN_mono h ds)
/-- faces that are no less -/
theorem soloK_mono (u : Int → Int) (d : List Int) (hu : ∀ f ∈ d, f ≤ u f) (rest : List (List Int)) : soloK d rest ≤ soloK (d.map u) rest := by
  unfold soloK
  induction d with
  | nil => exact Nat.le_refl _
  | cons f d ih =>
    have h1 := ih fun g hg => hu g (List.mem_cons_of_mem _ hg)
    have h2 := prodN_mono (fun e => below_mono (hu f List.mem_cons_self) e) rest
    simp only [List.map_cons, List.sum_cons]
    omega
theorem soloK_permD {d d' : List Int} (h : d.Perm d') (rest : List (List Int)) : soloK d rest = soloK d' rest := perm_sumN (h.map _)
theorem soloK_nil (d : List Int) : soloK d [] = d.length := by
  unfold soloK
  induction d with
  | nil => rfl
  | cons f d ih => rw [List.map_cons, List.sum_cons, ih]; simp [prodN]; omega
theorem cnt_eq_ge (d : List Int) : d.length ≤ cntP Eq' d d := by
  have : ∀ (l m : List Int), (∀ x ∈ l, x ∈ m) → l.length ≤ cntP Eq' l m := by
    intro l m
    induction l with
    | nil => intro _; exact Nat.zero_le _
    | cons x l ih =>
      intro h
      have h1 := ih fun y hy => h y (List.mem_cons_of_mem _ hy)
      have h2 : 0 < (m.filter (Eq' x)).length := List.length_pos_iff.mpr fun e => by
        have : x ∈ m.filter (Eq' x) := List.mem_filter.mpr ⟨h x List.mem_cons_self, by simp [Eq']⟩
        rw [e] at this
        cases this
      unfold cntP at h1 ⊢
      simp only [List.map_cons, List.sum_cons, List.length_cons]
      omega
  exact this d d fun _ h => h
end DL

namespace DL
open PySem PySem.Spec PyProof.Rows L2
/-! ### totals counted, walked -/
def cntGe (S : List Int) (t : Int) : Nat := (S.filter fun x => decide (t ≤ x)).length
def IIsN (base : Sto) (v : Val) (S : List Int) (g : List Cell) : Prop := v = .lst (S.map Val.int) ∨ ∃ l, v = .ref l ∧ base.length ≤ l ∧ (base ++ g)[l]? = some (.lst (S.map Val.int))
theorem cnt_in (d : Val) (t : Val) (rv : Val) (die : List Int) (l : Nat) (g : Option (Nat × Cell)) (base : Sto) (hl : l = base.length) (hg : Guard base g) (hd : die.length ≤ 8) : ∀ (us acc : List Int) (x y : Option Val), acc.length + 8 * us.length ≤ 1000000 →
    ∃ x' y', loop (Tg.name 5) (mDrop (mMeth chkL extendF (mVar 4) (mSeqA (mVal (mComp (mItT (mVar 3)) (Tg.name 6) mTrue (mOp addF (mVar 5) (mVar 6)) [6])) mNilA))) g (us.map Val.int)
      [some d, some t, some rv, some (vI die), some (.ref l), x, y] (base ++ [.lst (acc.map Val.int)]) = .next [some d, some t, some rv, some (vI die), some (.ref l), x', y'] (base ++ [.lst ((acc ++ stepS us die).map Val.int)]) := by
  have hgu : ∀ c : Cell, Guard (base ++ [c]) g := fun c => by
    cases g with
    | none => trivial
    | some p =>
      obtain ⟨j, e⟩ := p
      have hg : base[j]? = some e := hg
      show (base ++ [c])[j]? = some e
      rw [List.getElem?_append_left (List.getElem?_eq_some_iff.mp hg).1]
      exact hg
  intro us
  induction us with
  | nil => intro acc x y _; exact ⟨x, y, by simp [loop, hgu, stepS]⟩
  | cons u us ih =>
    intro acc x y hz
    simp only [List.length_cons] at hz
    obtain ⟨x', y', ih⟩ := ih (acc ++ die.map fun f => u + f) (some (.int u)) y (by simp; omega)
    refine ⟨x', y', ?_⟩
    have hc : ∀ st', compLoop (Tg.name 6) mTrue (mOp addF (mVar 5) (mVar 6)) none [some d, some t, some rv, some (vI die), some (.ref l), some (.int u), none] (die.map Val.int) [] st' = .ok ((die.map fun f => u + f).map Val.int) st' := fun st' => by
      refine (comp_pure none trivial (fun v => match v with | .int f => .int (u + f) | v => v) (die.map Val.int) [] fun v hv => ?_).trans (by simp)
      obtain ⟨f, _, rfl⟩ := List.mem_map.mp hv
      exact ⟨[some d, some t, some rv, some (vI die), some (.ref l), some (.int u), some (.int f)], rfl, rfl, by simp⟩
    have h2 : acc.length + die.length ≤ sizeLine := by have : sizeLine = 2 ^ 24 := rfl; omega
    rw [List.map_cons]
    subst hl
    simp only [loop, hgu, if_true, Tg.asg]
    simp [chkL, readL, lstAt, itemsT, wipeR, hc, isLD, Val.ofCell, extendF, DL.listOf, h2, -List.map_map]
    rw [show stepS (u :: us) die = (die.map fun f => u + f) ++ stepS us die from rfl]
    simpa [List.append_assoc] using ih
theorem cnt_out (d t : Val) (base : Sto) : ∀ (as : List (List Int)) (S : List Int) (rv : Val) (g : List Cell) (x2 x3 x4 x5 : Option Val), IIsN base rv S g → S.length * 8 ^ as.length ≤ 100000 → (∀ a ∈ as, a.length ≤ 8) →
    ∃ rv' g' x2' x3' x4' x5', loop (Tg.name 3) (mSeq (mSet 4 (mNew (mLst mNilA))) (mSeq (mFor (mItL (mVar 2)) (Tg.name 5) (mDrop (mMeth chkL extendF (mVar 4) (mSeqA (mVal (mComp (mItT (mVar 3)) (Tg.name 6) mTrue (mOp addF (mVar 5) (mVar 6)) [6])) mNilA)))) (mSet 2 (mVar 4)))) none (as.map vI)
      [some d, some t, some rv, x2, x3, x4, x5] (base ++ g) = .next [some d, some t, some rv', x2', x3', x4', x5'] (base ++ g') ∧ IIsN base rv' (as.foldl stepS S) g' := by
  intro as
  induction as with
  | nil => intro S rv g x2 x3 x4 x5 h _ _; exact ⟨rv, g, x2, x3, x4, x5, by simp [loop, Guard], h⟩
  | cons a as ih =>
    intro S rv g x2 x3 x4 x5 h hz ha
    simp only [List.length_cons] at hz
    have ha1 := ha a List.mem_cons_self
    have hp : 1 ≤ 8 ^ as.length := Nat.pos_of_ne_zero (by simp)
    have hz1 : S.length * 8 ≤ 100000 := by
      refine Nat.le_trans ?_ hz
      refine Nat.mul_le_mul_left _ ?_
      rw [Nat.pow_succ]
      omega
    have hz2 : (stepS S a).length * 8 ^ as.length ≤ 100000 := by
      rw [step_len]
      refine Nat.le_trans ?_ hz
      rw [Nat.pow_succ, Nat.mul_comm (8 ^ as.length) 8, ← Nat.mul_assoc]
      exact Nat.mul_le_mul_right _ (Nat.mul_le_mul_left _ ha1)
    obtain ⟨gd, e1, e2⟩ : ∃ gd, itemsL rv (base ++ g ++ [.lst []]) = .ok ⟨S.map Val.int, gd⟩ (base ++ g ++ [.lst []]) ∧ Guard (base ++ g) gd := by
      rcases h with rfl | ⟨l, rfl, _, hl⟩
      · exact ⟨none, rfl, trivial⟩
      · refine ⟨some (l, .lst (S.map Val.int)), ?_, hl⟩
        unfold itemsL
        dsimp only
        rw [List.getElem?_append_left (List.getElem?_eq_some_iff.mp hl).1, hl]
    obtain ⟨y4, y5, e3⟩ := cnt_in d t rv a (base ++ g).length gd (base ++ g) rfl e2 ha1 S [] x4 x5 (by simp; omega)
    obtain ⟨rv', g', z2, z3, z4, z5, e4, e5⟩ := ih (stepS S a) (.ref (base ++ g).length) (g ++ [.lst ((stepS S a).map Val.int)]) (some (vI a)) (some (.ref (base ++ g).length)) y4 y5
      (.inr ⟨_, rfl, by simp, by rw [← List.append_assoc]; simp⟩) hz2 (fun b hb => ha b (List.mem_cons_of_mem _ hb))
    refine ⟨rv', g', z2, z3, z4, z5, ?_, e5⟩
    rw [List.map_cons]
    simp only [loop, Guard, if_true, Tg.asg]
    simp only [List.length_append, List.append_assoc, List.nil_append, List.map_nil] at e1 e3 e4
    simp [e1, e3, e4]
def P_counted : List Val → Out
  | [v, .int t] => match diceOf v with
    | some ds => .val (vI [(cntGe (totS ds) t : Int), ((totS ds).length : Int)])
    | none => .no
  | _ => .no
abbrev F_counted : FV := pureF P_counted
def P_chance : List Val → Out
  | [v, .int t] => match diceOf v with
    | some ds => if 0 ≤ t ∧ t ≤ 999 then .val (vI (fracI (cntGe (totS ds) t) (totS ds).length)) else .no
    | none => .no
  | _ => .no
abbrev F_chance : FV := pureF P_chance
def P_need_total : List Val → Out
  | [v] => if v.top = true then (if wholeB v 0 999 = true then .val .non else .err "NoNumber") else .no
  | _ => .no
abbrev F_need_total : FV := pureF P_need_total
/-! ### in -/
theorem flatDs_ints : ∀ ns : List Int, flatDs (ns.map Val.int) = some (ns.map V.int)
  | [] => rfl
  | n :: ns => by simp only [List.map_cons, flatDs, flatD, flatDs_ints ns]
theorem inV_ints (k : Int) : ∀ ns : List Int, inV (.int k) (ns.map V.int) = decide (k ∈ ns)
  | [] => by simp [inV]
  | n :: ns => by
    have := inV_ints k ns
    unfold inV at this ⊢
    rw [List.map_cons, List.any_cons, this]
    by_cases e : n = k
    · simp [eqV, e]
    · have e2 : ¬ k = n := fun q => e q.symm
      simp [eqV, e, e2]
theorem inF_ints (k : Int) (ns : List Int) (st : Sto) : inF (.int k) (vI ns) st = .ok (.bl (decide (k ∈ ns))) st := by
  simp [inF, inG, seqOf, flatD, flatDs_ints, inV_ints]
theorem niF_ints (k : Int) (ns : List Int) (st : Sto) : niF (.int k) (vI ns) st = .ok (.bl (!decide (k ∈ ns))) st := by
  simp [niF, inG, seqOf, flatD, flatDs_ints, inV_ints]
theorem ixF_at {vs : List Val} {v : Val} {i : Int} (h0 : 0 ≤ i) (h : vs[i.toNat]? = some v) (st : Sto) : ixF (.tup vs) (.int i) st = .ok v st := by
  have h1 : i.toNat < vs.length := (List.getElem?_eq_some_iff.mp h).1
  have : ixN vs.length i = some i.toNat := by
    unfold ixN
    rw [if_pos h0, if_pos (by omega)]
  simp [ixF, seqOf, atI, this, h]
/-! ### which stay, which are rolled again -/
def stay (ps : List Int) : Nat → List Int → List Int
  | _, [] => []
  | k, r :: rs => if ((k : Nat) : Int) ∈ ps then stay ps (k + 1) rs else r :: stay ps (k + 1) rs
def subs (ds : List (List Int)) (ps : List Int) : List (List Int) := ps.map fun p => ds.getD p.toNat []
theorem comp_stay (v0 v1 v2 : Option Val) (ps : List Int) (v4 v5 v8 : Option Val) (st : Sto) : ∀ (roll : List Int) (k : Nat) (acc : List Val),
    compLoop (Tg.tup [6, 7]) (mBool (mOp niF (mVar 6) (mVar 3))) (mVar 7) none [v0, v1, v2, some (vI ps), v4, v5, none, none, v8] (enumF k (roll.map Val.int)) acc st = .ok (acc ++ (stay ps k roll).map Val.int) st := by
  intro roll
  induction roll with
  | nil => intro k acc; simp [enumF, compLoop, Guard, stay]
  | cons r roll ih =>
    intro k acc
    have hn := niF_ints (k : Nat) ps st
    rw [List.map_cons, enumF]
    unfold compLoop
    simp only [Guard, if_true, Tg.asg, setAll, List.set_cons_succ, List.set_cons_zero]
    by_cases e : ((k : Nat) : Int) ∈ ps
    · simp [hn, e, ih, stay]
    · simp [hn, e, ih, stay]
theorem stay_range (ps : List Int) : ∀ (roll : List Int) (k : Nat), stay ps k roll = ((List.range roll.length).filter fun i => !decide (((k + i : Nat) : Int) ∈ ps)).map fun i => roll.getD i 0
  | [], k => rfl
  | r :: roll, k => by
    have ih := stay_range ps roll (k + 1)
    rw [List.length_cons, List.range_succ_eq_map, List.filter_cons, List.filter_map, stay, ih]
    have e : ∀ i, k + 1 + i = k + (i + 1) := fun i => by omega
    by_cases q : ((k : Nat) : Int) ∈ ps
    · simp [q, Function.comp_def, e]
    · simp [q, Function.comp_def, e]
def placesL : Nat → List (List Int)
  | 0 => [[]]
  | 1 => [[], [0]]
  | 2 => [[], [0], [1], [0, 1]]
  | 3 => [[], [0], [1], [2], [0, 1], [0, 2], [1, 2], [0, 1, 2]]
  | 4 => [[], [0], [1], [2], [3], [0, 1], [0, 2], [0, 3], [1, 2], [1, 3], [2, 3], [0, 1, 2], [0, 1, 3], [0, 2, 3], [1, 2, 3], [0, 1, 2, 3]]
  | _ => []
def P_places_of : List Val → Out
  | [.int n] => if 0 ≤ n ∧ n ≤ 4 then .val (.lst ((placesL n.toNat).map vI)) else .no
  | _ => .no
abbrev F_places_of : FV := pureF P_places_of
theorem places_in : ∀ {n : Nat}, n ≤ 4 → ∀ ps ∈ placesL n, ps.length ≤ 4 ∧ ∀ p ∈ ps, 0 ≤ p ∧ p < (n : Nat)
  | 0, _ => by decide
  | 1, _ => by decide
  | 2, _ => by decide
  | 3, _ => by decide
  | 4, _ => by decide
  | n + 5, h => by omega
def upI (ds : List (List Int)) (roll : List Int) (t : Int) (ps : List Int) : Nat := cntGe (totS (subs ds ps)) (t - (stay ps 0 roll).sum)
def dnI (ds : List (List Int)) (ps : List Int) : Nat := (totS (subs ds ps)).length
def placesOk (n : Nat) (ps : List Int) : Bool := decide (ps.length ≤ 4 ∧ ∀ p ∈ ps, 0 ≤ p ∧ p < (n : Nat))
def P_good_by : List Val → Out
  | [v, .tup rs, .int t, .tup ps] => match diceOf v, intsOf rs, intsOf ps with
    | some ds, some roll, some ps => if placesOk ds.length ps = true then .val (vI [(upI ds roll t ps : Int), (dnI ds ps : Int)]) else .no
    | _, _, _ => .no
  | _ => .no
abbrev F_good_by : FV := pureF P_good_by
abbrev Bst := List Int × Nat × Nat
def bestStep (ds : List (List Int)) (roll : List Int) (t : Int) (b : Option Bst) (ps : List Int) : Option Bst := match b with
  | none => some (ps, upI ds roll t ps, dnI ds ps)
  | some b => if b.2.1 * dnI ds ps < upI ds roll t ps * b.2.2 then some (ps, upI ds roll t ps, dnI ds ps) else some b
def bestO (ds : List (List Int)) (roll : List Int) (t : Int) : Option Bst := (placesL ds.length).foldl (bestStep ds roll t) none
def bestV : Option Bst → Val
  | none => .non
  | some b => .tup [vI b.1, .int (b.2.1 : Nat), .int (b.2.2 : Nat)]
def P_best_of : List Val → Out
  | [v, .tup rs, .int t] => match diceOf v, intsOf rs with
    | some ds, some roll => .val (bestV (bestO ds roll t))
    | _, _ => .no
  | _ => .no
abbrev F_best_of : FV := pureF P_best_of
def rollOk (ds : List (List Int)) (roll : List Int) : Bool := decide (roll.length = ds.length) && (roll.zip ds).all fun p => decide (p.1 ∈ p.2)
def P_best_again : List Val → Out
  | [v, .tup rs, .int t] => match diceOf v, intsOf rs with
    | some ds, some roll => if rollOk ds roll = true ∧ 0 ≤ t ∧ t ≤ 999 then (match bestO ds roll t with
      | some b => .val (.tup [vI b.1, vI (fracI b.2.1 b.2.2)])
      | none => .no) else .no
    | _, _ => .no
  | _ => .no
abbrev F_best_again : FV := pureF P_best_again
/-- totals of some dice that stand in a list, of none, too -/
def P_totL : List Val → Out
  | [.lst vs] => match diesOf vs with
    | some ds => if ds.length ≤ 4 then .val (.dic (toK (totB ds))) else .no
    | none => .no
  | _ => .no
end DL

namespace DL
open PySem PySem.Spec PyProof.Rows L2
/-! ### rolls, whose tuples are made here -/
@[simp] theorem mTupK_ap {ms : MA} {ρ : Rho} {st : Sto} : mTupK ms ρ st = (match ms ρ st with | .ok vs st1 => if vs.length ≤ sizeLine then .ok (.tpk vs) st1 else .stuck | .exc c s => .exc c s | .stuck => .stuck) := by unfold mTupK; cases ms ρ st <;> rfl
def vK : List Int → Val
  | [] => .tup []
  | x :: r => .tpk ((x :: r).map Val.int)
abbrev vRK (rows : List (List Int)) : Val := .lst (rows.map vK)
theorem vK_of {r : List Int} (h : r ≠ []) : vK r = .tpk (r.map Val.int) := by
  cases r with
  | nil => exact absurd rfl h
  | cons x r => rfl
theorem addK_row (u : List Int) (f : Int) (st : Sto) (h : u.length + 1 ≤ sizeLine) : addKF (vK u) (.tpk [.int f]) st = .ok (vK (u ++ [f])) st := by
  cases u with
  | nil => rfl
  | cons x u =>
    simp only [vK, List.map_cons, addKF]
    rw [if_pos (by simpa using h)]
    simp [vK]
theorem enc_vK (r : List Int) : (vK r).enc = .tuple (r.map PyData.int) := by
  cases r with
  | nil => rfl
  | cons x r => simp [vK, Val.enc, Val.data, Val.datas]
theorem data_vK (r : List Int) : (vK r).data = some (.tuple (r.map PyData.int)) := by
  cases r with
  | nil => rfl
  | cons x r =>
    have := datas_ints (x :: r)
    simp only [vK, Val.data, this, Option.map]
theorem datas_vK : ∀ rows : List (List Int), Val.datas (rows.map vK) = some (rows.map fun r => .tuple (r.map PyData.int))
  | [] => rfl
  | r :: rows => by simp only [List.map_cons, Val.datas, data_vK, datas_vK rows]
theorem sortV_vK (rows : List (List Int)) : sortV (rows.map vK) = (sortR rows).map vK := by
  unfold sortV sortR
  symm
  apply List.map_mergeSort
  intro a _ b _
  have := congrFun (congrFun (PySem.W.dataLe_rows (fun b : List Int => b)) a) b
  rw [← this]
  simp only [PySem.W.dataLe, PySem.W.sortLe, enc_vK, PySem.W.keyToks]
theorem sortOk_vK {rows : List (List Int)} (h : ∀ r ∈ rows, r ≠ []) : SortOk (rows.map vK) := by
  obtain ⟨ds, h1, h2, h3, h4⟩ := sortOk_rows h
  rw [datas_rows] at h1
  cases h1
  exact ⟨_, datas_vK rows, h2, h3, h4⟩
theorem cl_vK {n : Nat} (r : List Int) : ClV n (vK r) := by
  cases r with
  | nil => exact .tup .nil
  | cons x r => exact .tpk (cl_ints (x :: r))
theorem cl_rowsK {n : Nat} : ∀ rows : List (List Int), ClL n (rows.map vK)
  | [] => .nil
  | r :: rows => .cons (cl_vK r) (cl_rowsK rows)
theorem seq_vK (r : List Int) (st : Sto) : seqOf (vK r) st = some (r.map Val.int) := by
  cases r <;> rfl
/-- rows as a value, or as a list that was made behind the base -/
def LIsK (base : Sto) (v : Val) (rows : List (List Int)) (g : List Cell) : Prop := v = vRK rows ∨ ∃ l, v = .ref l ∧ base.length ≤ l ∧ (base ++ g)[l]? = some (.lst (rows.map vK))
theorem rolls_inK (d : Val) (rv : Val) (die : List Int) (l : Nat) (g : Option (Nat × Cell)) (base : Sto) (hl : l = base.length) (hg : Guard base g) (hd : die.length ≤ 8) : ∀ (us acc : List (List Int)) (x y : Option Val), acc.length + 8 * us.length ≤ 1000000 → (∀ u ∈ us, u.length ≤ 10) →
    ∃ x' y', loop (Tg.name 4) (mDrop (mMeth chkL extendF (mVar 3) (mSeqA (mVal (mComp (mItT (mVar 2)) (Tg.name 5) mTrue (mOp addKF (mVar 4) (mTupK (mSeqA (mVar 5) mNilA))) [5])) mNilA))) g (us.map vK)
      [some d, some rv, some (vI die), some (.ref l), x, y] (base ++ [.lst (acc.map vK)]) = .next [some d, some rv, some (vI die), some (.ref l), x', y'] (base ++ [.lst ((acc ++ grow us die).map vK)]) := by
  have hgu : ∀ c : Cell, Guard (base ++ [c]) g := fun c => by
    cases g with
    | none => trivial
    | some p =>
      obtain ⟨j, e⟩ := p
      have hg : base[j]? = some e := hg
      show (base ++ [c])[j]? = some e
      rw [List.getElem?_append_left (List.getElem?_eq_some_iff.mp hg).1]
      exact hg
  intro us
  induction us with
  | nil => intro acc x y _ _; exact ⟨x, y, by simp [loop, hgu, grow]⟩
  | cons u us ih =>
    intro acc x y hz hu
    simp only [List.length_cons] at hz
    obtain ⟨x', y', ih⟩ := ih (acc ++ die.map fun f => u ++ [f]) (some (vK u)) y (by simp; omega) (fun v hv => hu v (List.mem_cons_of_mem _ hv))
    refine ⟨x', y', ?_⟩
    have hc : ∀ st', compLoop (Tg.name 5) mTrue (mOp addKF (mVar 4) (mTupK (mSeqA (mVar 5) mNilA))) none [some d, some rv, some (vI die), some (.ref l), some (vK u), none] (die.map Val.int) [] st' = .ok ((die.map fun f => u ++ [f]).map vK) st' := fun st' => by
      refine (comp_pure none trivial (fun v => match v with | .int f => vK (u ++ [f]) | v => v) (die.map Val.int) [] fun v hv => ?_).trans (by simp)
      obtain ⟨f, _, rfl⟩ := List.mem_map.mp hv
      refine ⟨[some d, some rv, some (vI die), some (.ref l), some (vK u), some (.int f)], rfl, rfl, ?_⟩
      have h1 := hu u List.mem_cons_self
      have h2 : u.length + 1 ≤ sizeLine := by have : sizeLine = 2 ^ 24 := rfl; omega
      simp [addK_row u f st' h2, show (1 : Nat) ≤ sizeLine by decide]
    have h2 : acc.length + die.length ≤ sizeLine := by have : sizeLine = 2 ^ 24 := rfl; omega
    rw [List.map_cons]
    subst hl
    simp only [loop, hgu, if_true, Tg.asg]
    simp [chkL, readL, lstAt, itemsT, wipeR, hc, isLD, Val.ofCell, extendF, DL.listOf, h2, -List.map_map]
    rw [show grow (u :: us) die = (die.map fun f => u ++ [f]) ++ grow us die from rfl]
    simpa [List.append_assoc] using ih
theorem rolls_outK (d : Val) (rows0 : List (List Int)) (base : Sto) : ∀ (as rows : List (List Int)) (rv : Val) (g : List Cell) (x2 x3 x4 x5 : Option Val), LIsK base rv rows g → rows.length * 8 ^ as.length ≤ 100000 → (∀ u ∈ rows, u.length + as.length ≤ 10) → (∀ a ∈ as, a.length ≤ 8) →
    ∃ rv' g' x2' x3' x4' x5', loop (Tg.name 2) (mSeq (mSet 3 (mNew (mLst mNilA))) (mSeq (mFor (mItL (mVar 1)) (Tg.name 4) (mDrop (mMeth chkL extendF (mVar 3) (mSeqA (mVal (mComp (mItT (mVar 2)) (Tg.name 5) mTrue (mOp addKF (mVar 4) (mTupK (mSeqA (mVar 5) mNilA))) [5])) mNilA)))) (mSet 1 (mVar 3)))) none (as.map vI)
      [some d, some rv, x2, x3, x4, x5] (base ++ g) = .next [some d, some rv', x2', x3', x4', x5'] (base ++ g') ∧ LIsK base rv' (as.foldl grow rows) g' := by
  intro as
  induction as with
  | nil => intro rows rv g x2 x3 x4 x5 h _ _ _; exact ⟨rv, g, x2, x3, x4, x5, by simp [loop, Guard], h⟩
  | cons a as ih =>
    intro rows rv g x2 x3 x4 x5 h hz hr ha
    simp only [List.length_cons] at hz hr
    have ha1 := ha a List.mem_cons_self
    have hp : 1 ≤ 8 ^ as.length := Nat.pos_of_ne_zero (by simp)
    have hz1 : rows.length * 8 ≤ 100000 := by
      refine Nat.le_trans ?_ hz
      refine Nat.mul_le_mul_left _ ?_
      rw [Nat.pow_succ]
      omega
    have hz2 : (grow rows a).length * 8 ^ as.length ≤ 100000 := by
      rw [grow_len]
      refine Nat.le_trans ?_ hz
      rw [Nat.pow_succ, Nat.mul_comm (8 ^ as.length) 8, ← Nat.mul_assoc]
      exact Nat.mul_le_mul_right _ (Nat.mul_le_mul_left _ ha1)
    obtain ⟨gd, e1, e2⟩ : ∃ gd, itemsL rv (base ++ g ++ [.lst []]) = .ok ⟨rows.map vK, gd⟩ (base ++ g ++ [.lst []]) ∧ Guard (base ++ g) gd := by
      rcases h with rfl | ⟨l, rfl, _, hl⟩
      · exact ⟨none, rfl, trivial⟩
      · refine ⟨some (l, .lst (rows.map vK)), ?_, hl⟩
        unfold itemsL
        dsimp only
        rw [List.getElem?_append_left (List.getElem?_eq_some_iff.mp hl).1, hl]
    obtain ⟨y4, y5, e3⟩ := rolls_inK d rv a (base ++ g).length gd (base ++ g) rfl e2 ha1 rows [] x4 x5 (by simp; omega) (fun u hu => by have := hr u hu; omega)
    obtain ⟨rv', g', z2, z3, z4, z5, e4, e5⟩ := ih (grow rows a) (.ref (base ++ g).length) (g ++ [.lst ((grow rows a).map vK)]) (some (vI a)) (some (.ref (base ++ g).length)) y4 y5
      (.inr ⟨_, rfl, by simp, by rw [← List.append_assoc]; simp⟩) hz2
      (fun u hu => by
        simp only [grow, List.mem_flatMap, List.mem_map] at hu
        obtain ⟨q, hq, f, _, rfl⟩ := hu
        have := hr q hq
        simp
        omega)
      (fun b hb => ha b (List.mem_cons_of_mem _ hb))
    refine ⟨rv', g', z2, z3, z4, z5, ?_, e5⟩
    rw [List.map_cons]
    simp only [loop, Guard, if_true, Tg.asg]
    simp only [List.map_nil, List.nil_append] at e3
    have e1' : itemsL rv (base ++ (g ++ [.lst []])) = .ok ⟨rows.map vK, gd⟩ (base ++ (g ++ [.lst []])) := by rw [← List.append_assoc]; exact e1
    simp only [List.length_append, List.append_assoc] at e3 e4
    simp [e1', e3, e4]


def P_rollsK : List Val → Out
  | [v] => if saneDice v = true then (match diceOf v with
    | none => .err "NoDice"
    | some ds => .val (vRK (rollsL ds))) else .no
  | _ => .no
end DL

namespace DL
open PySem PySem.Spec PyProof.Rows L2
/-! ### a loop that goes to its end -/
theorem loop_inv {t : Tg} {body : MS} {g : Option (Nat × Cell)} (J : List Val → Rho → Sto → Prop)
    (hs : ∀ v rest ρ st, J (v :: rest) ρ st → Guard st g ∧ ∃ ρ', t.asg v ρ = some ρ' ∧ ∃ ρ2 st2, body ρ' st = .next ρ2 st2 ∧ J rest ρ2 st2)
    (hg : ∀ ρ st, J [] ρ st → Guard st g) : ∀ (vs : List Val) (ρ : Rho) (st : Sto), J vs ρ st → ∃ ρ2 st2, loop t body g vs ρ st = .next ρ2 st2 ∧ J [] ρ2 st2
  | [], ρ, st, h => ⟨ρ, st, by simp only [loop, hg _ _ h, if_true], h⟩
  | v :: vs, ρ, st, h => by
    obtain ⟨h1, ρ', h2, ρ2, st2, h3, h4⟩ := hs v vs ρ st h
    obtain ⟨ρ3, st3, h5, h6⟩ := loop_inv J hs hg vs ρ2 st2 h4
    exact ⟨ρ3, st3, by simp only [loop, h1, if_true, h2, h3, h5], h6⟩
theorem eqF_bl {a b : Bool} {st : Sto} : eqF (.bl a) (.bl b) st = .ok (.bl (decide (a = b))) st := by
  cases a <;> cases b <;> rfl
theorem neF_bl {a b : Bool} {st : Sto} : neF (.bl a) (.bl b) st = .ok (.bl (!decide (a = b))) st := by
  cases a <;> cases b <;> rfl
theorem mAugIx_ap {mo mi me : ME} {ρ : Rho} {st : Sto} {l j : Nat} {k x y : Int} {ws : List Val} (h1 : mo ρ st = .ok (.ref l) st) (h2 : mi ρ st = .ok (.int k) st) (h3 : lstAt st l = some ws) (h4 : L2.atI ws k = some (.int x))
    (h5 : me ρ st = .ok (.int y) st) (h6 : ixN ws.length k = some j) : mAugIx mo mi me ρ st = .next ρ (st.set l (.lst (ws.set j (.int (x + y))))) := by
  simp only [mAugIx, withE, h1, h2, h3, Option.bind, h4, h5, h6]
/-! ### beats, chance with its refusals -/
def P_beats : List Val → Out
  | [v, w] => if saneDie v = true then (match dieOf v with
    | none => .err "NoDie"
    | some ds => if saneDie w = true then (match dieOf w with
      | none => .err "NoDie"
      | some es => .val (.bl (decide (cntP Lt ds es < cntP Gt ds es)))) else .no) else .no
  | _ => .no
def P_chanceE : List Val → Out
  | [v, t] => if saneDice v = true then (match diceOf v with
    | none => .err "NoDice"
    | some ds => if t.top = true then (match t with
      | .int k => if 0 ≤ k ∧ k ≤ 999 then .val (vI (fracI (cntGe (totS ds) k) (totS ds).length)) else .err "NoNumber"
      | _ => .err "NoNumber") else .no) else .no
  | _ => .no
theorem cnt_self (ds : List Int) : cntP Lt ds ds = cntP Gt ds ds := by
  have h := match_flip ds ds
  simp only [matchL, List.reverse_cons, List.reverse_nil, List.nil_append, List.cons_append, List.cons.injEq, and_true] at h
  exact_mod_cast h.2.2
end DL

/-! Rings: all rows by a table of who beats whom. -/
namespace DL
open PySem PySem.Spec PyProof.Rows L2
abbrev Tb := List (List Bool)
def rd (T : Tb) (p q : Int) : Bool := (T.getD p.toNat []).getD q.toNat false
def tblB (R : List Int → List Int → Bool) (ds : List (List Int)) : Tb := ds.map fun d => ds.map fun e => R d e
abbrev dieAt (ds : List (List Int)) (p : Int) : List Int := ds.getD p.toNat []
theorem rd_tbl {R : List Int → List Int → Bool} {ds : List (List Int)} {p q : Int} (hp : 0 ≤ p ∧ p < ds.length) (hq : 0 ≤ q ∧ q < ds.length) : rd (tblB R ds) p q = R (dieAt ds p) (dieAt ds q) := by
  have h1 : p.toNat < ds.length := by omega
  have h2 : q.toNat < ds.length := by omega
  simp [rd, tblB, dieAt, h1, h2]
def extR (T : Tb) (n : Nat) (row : List Int) : List Int := (rngI (row.headD 0 + 1) (n - (row.headD 0 + 1)).toNat).filter fun p => !decide (p ∈ row) && rd T (row.getLastD 0) p
def closeR (T : Tb) (row : List Int) : List (List Int) := if rd T (row.getLastD 0) (row.headD 0) = true then [row] else []
def dfsR (T : Tb) (n : Nat) : Nat → List Int → List (List Int)
  | 0, _ => []
  | k + 1, row => closeR T row ++ (extR T n row).flatMap fun p => dfsR T n k (row ++ [p])
def dfsA (T : Tb) (n : Nat) : List (List Int) := (rngI 0 n).flatMap fun p => dfsR T n 6 [p]
def rowOk (n : Nat) (row : List Int) : Bool := decide (row ≠ [] ∧ row.Nodup ∧ ∀ p ∈ row, 0 ≤ p ∧ p < (n : Int))
theorem pig : ∀ (n : Nat) (l : List Int), l.Nodup → (∀ p ∈ l, 0 ≤ p ∧ p < (n : Int)) → l.length ≤ n
  | 0, l, _, h => by
    cases l with
    | nil => exact Nat.le_refl _
    | cons a l => have := h a List.mem_cons_self; omega
  | n + 1, l, hn, h => by
    have ih := pig n (l.erase (n : Int)) (hn.erase _) fun p hp => by
      have := hn.mem_erase_iff.mp hp
      have := h p this.2
      omega
    by_cases m : (n : Int) ∈ l
    · rw [List.length_erase_of_mem m] at ih; omega
    · rw [List.erase_of_not_mem m] at ih; omega
theorem extR_mem {T : Tb} {n : Nat} {row : List Int} {p : Int} (h : p ∈ extR T n row) : row.headD 0 + 1 ≤ p ∧ p < n ∧ p ∉ row ∧ rd T (row.getLastD 0) p = true := by
  unfold extR at h
  rw [List.mem_filter, mem_rngI, Bool.and_eq_true] at h
  obtain ⟨⟨h1, h2⟩, h3, h4⟩ := h
  have h3 : p ∉ row := by simpa using h3
  exact ⟨h1, by omega, h3, h4⟩
theorem head_mem {row : List Int} (h : row ≠ []) : row.headD 0 ∈ row := by
  cases row with
  | nil => exact absurd rfl h
  | cons a l => exact List.mem_cons_self
theorem last_memD {row : List Int} (h : row ≠ []) : row.getLastD 0 ∈ row := by
  rw [List.getLastD_eq_getLast?, List.getLast?_eq_some_getLast h]
  exact List.getLast_mem h
theorem rowOk_iff {n : Nat} {row : List Int} : rowOk n row = true ↔ row ≠ [] ∧ row.Nodup ∧ ∀ p ∈ row, 0 ≤ p ∧ p < (n : Int) := decide_eq_true_iff
theorem rowOk_snoc {T : Tb} {n : Nat} {row : List Int} {p : Int} (h : rowOk n row = true) (hp : p ∈ extR T n row) : rowOk n (row ++ [p]) = true := by
  obtain ⟨h1, h2, h3⟩ := rowOk_iff.mp h
  obtain ⟨e1, e2, e3, e4⟩ := extR_mem hp
  have h0 := h3 _ (head_mem h1)
  refine rowOk_iff.mpr ⟨by simp, ?_, fun q hq => ?_⟩
  · rw [List.nodup_append]
    exact ⟨h2, by simp, fun a ha b hb => by
      rw [List.mem_singleton] at hb
      rintro rfl
      exact e3 (hb ▸ ha)⟩
  · rw [List.mem_append, List.mem_singleton] at hq
    rcases hq with hq | rfl
    · exact h3 q hq
    · exact ⟨by omega, e2⟩
theorem rowOk_len {n : Nat} {row : List Int} (h : rowOk n row = true) : row.length ≤ n := by
  obtain ⟨_, h2, h3⟩ := rowOk_iff.mp h
  exact pig n row h2 h3
theorem dfs_ok {T : Tb} {n : Nat} : ∀ (k : Nat) (row : List Int), rowOk n row = true → ∀ r ∈ dfsR T n k row, rowOk n r = true
  | 0, _, _, r, h => nomatch h
  | k + 1, row, h, r, hr => by
    simp only [dfsR, List.mem_append, List.mem_flatMap] at hr
    rcases hr with hr | ⟨p, hp, hr⟩
    · unfold closeR at hr
      split at hr
      · rw [List.mem_singleton] at hr; subst hr; exact h
      · cases hr
    · exact dfs_ok k _ (rowOk_snoc h hp) r hr
/-! items of rows -/
theorem ix_hd {v : Val} {row : List Int} {st : Sto} (h : seqOf v st = some (row.map Val.int)) (hne : row ≠ []) : ixF v (.int 0) st = .ok (.int (row.headD 0)) st := by
  cases row with
  | nil => exact absurd rfl hne
  | cons a l =>
    have : (0 : Int) < (l.length : Int) + 1 := by omega
    simp [ixF, h, atI, ixN, this]
theorem ix_lst {v : Val} {row : List Int} {st : Sto} (h : seqOf v st = some (row.map Val.int)) (hne : row ≠ []) : ixF v (.int (-1)) st = .ok (.int (row.getLastD 0)) st := by
  have h0 : 0 < row.length := List.length_pos_iff.mpr hne
  have h1 : -(row.length : Int) ≤ -1 := by omega
  have h2 : (-1 + (row.length : Int)).toNat = row.length - 1 := by omega
  have h3 : row[row.length - 1]? = some (row.getLastD 0) := by
    rw [List.getLastD_eq_getLast?, List.getLast?_eq_getElem?]
    rw [List.getElem?_eq_getElem (by omega)]
    rfl
  simp [ixF, h, atI, ixN, h1, h2, h3]
theorem ix_dice {ds : List (List Int)} {p : Int} {st : Sto} (hp : 0 ≤ p ∧ p < ds.length) : ixF (vD ds) (.int p) st = .ok (vI (dieAt ds p)) st := by
  have h1 : p.toNat < ds.length := by omega
  simp [ixF, seqOf, atI, ixN, hp.1, hp.2, dieAt, h1]
theorem niF_L (k : Int) (ns : List Int) (st : Sto) : niF (.int k) (.lst (ns.map Val.int)) st = .ok (.bl (!decide (k ∈ ns))) st := niF_ints k ns st
theorem negF_1 (st : Sto) : negF (.int 1) st = .ok (.int (-1)) st := rfl
/-! rings_of, rings_from -/
noncomputable abbrev ringsM (B G : FV) : MS := (mSeq (mSet 2 (mNew (mLst mNilA)))
  (mSeq (mIfS (mBool (mCall B (mSeqA (mOp ixF (mVar 0) (mOp ixF (mVar 1) (mUn negF (mC (.int 1))))) (mSeqA (mOp ixF (mVar 0) (mOp ixF (mVar 1) (mC (.int 0)))) mNilA)))) (mDrop (mMeth chkL appendF (mVar 2) (mSeqA (mCall (lift1 tupG) (mSeqA (mVar 1) mNilA)) mNilA))) mNext)
  (mSeq (mFor (mRng2 (mOp addF (mOp ixF (mVar 1) (mC (.int 0))) (mC (.int 1))) (mCall (lift1 lenG) (mSeqA (mVar 0) mNilA))) (Tg.name 3) (mIfS (mAnd (mBool (mOp niF (mVar 3) (mVar 1))) (mBool (mCall B (mSeqA (mOp ixF (mVar 0) (mOp ixF (mVar 1) (mUn negF (mC (.int 1))))) (mSeqA (mOp ixF (mVar 0) (mVar 3)) mNilA))))) (mDrop (mMeth chkL extendF (mVar 2) (mSeqA (mCall G (mSeqA (mVar 0) (mSeqA (mOp addF (mVar 1) (mVal (mLst (mSeqA (mVar 3) mNilA)))) mNilA))) mNilA))) mNext))
  (mRet (mVar 2)))))
theorem ext_step {B G : FV} {ds : List (List Int)} {row : List Int} {st0 : Sto} {made new : List (List Int)} {p : Int} (hz : made.length + new.length ≤ 1000000) (hg : G [vD ds, .lst ((row ++ [p]).map Val.int)] (st0 ++ [.lst (made.map vI)]) = .ok (.lst (new.map vI)) (st0 ++ [.lst (made.map vI)])) (hr : row.length ≤ 1000) :
    mDrop (mMeth chkL extendF (mVar 2) (mSeqA (mCall G (mSeqA (mVar 0) (mSeqA (mOp addF (mVar 1) (mVal (mLst (mSeqA (mVar 3) mNilA)))) mNilA))) mNilA)) [some (vD ds), some (.lst (row.map Val.int)), some (.ref st0.length), some (.int p)] (st0 ++ [.lst (made.map vI)]) =
      .next [some (vD ds), some (.lst (row.map Val.int)), some (.ref st0.length), some (.int p)] (st0 ++ [.lst ((made ++ new).map vI)]) := by
  have lk : lstAt (st0 ++ [.lst (made.map vI)]) st0.length = some (made.map vI) := by simp [lstAt]
  have z : sizeLine = 16777216 := by decide
  have z1 : made.length + new.length ≤ sizeLine := by omega
  have ha : addF (.lst (row.map Val.int)) (.lst [.int p]) (st0 ++ [.lst (made.map vI)]) = .ok (.lst ((row ++ [p]).map Val.int)) (st0 ++ [.lst (made.map vI)]) := by
    simp [addF, listOf, z]
    omega
  rw [mDrop_ap]
  simp [chkL, readL, lk, ha, isLD, Val.ofCell, show (1 : Nat) ≤ sizeLine by decide]
  simp only [List.map_append, List.map_cons, List.map_nil] at hg
  rw [hg]
  simp [extendF, lk, listOf, z1]
theorem rings_B {B G : FV} {R : List Int → List Int → Bool} {ds : List (List Int)} {row : List Int} {k : Nat} (hn : ds.length ≤ 4) (hr : rowOk ds.length row = true)
    (hB : ∀ p q st, 0 ≤ p ∧ p < (ds.length : Int) → 0 ≤ q ∧ q < (ds.length : Int) → B [vI (dieAt ds p), vI (dieAt ds q)] st = .ok (.bl (R (dieAt ds p) (dieAt ds q))) st)
    (hG : ∀ p st, p ∈ extR (tblB R ds) ds.length row → G [vD ds, .lst ((row ++ [p]).map Val.int)] st = .ok (.lst ((dfsR (tblB R ds) ds.length k (row ++ [p])).map vI)) st)
    (hz : (dfsR (tblB R ds) ds.length (k + 1) row).length ≤ 1000000) (st : Sto) :
    runB 2 4 (ringsM B G) [vD ds, .lst (row.map Val.int)] st = .ok (.ref st.length) (st ++ [.lst ((dfsR (tblB R ds) ds.length (k + 1) row).map vI)]) := by
  obtain ⟨h1, h2, h3⟩ := rowOk_iff.mp hr
  have hl := rowOk_len hr
  have q0 := h3 _ (head_mem h1)
  have q1 := h3 _ (last_memD h1)
  generalize hT : tblB R ds = T at *
  have sq : ∀ s, seqOf (.lst (row.map Val.int)) s = some (row.map Val.int) := fun s => rfl
  have sz : sizeLine = 16777216 := by decide
  -- the loop
  have step : ∀ (made : List (List Int)) (x : Option Val), made.length + ((extR T ds.length row).flatMap fun p => dfsR T ds.length k (row ++ [p])).length ≤ 1000000 →
      ∃ x', loop (Tg.name 3) (mIfS (mAnd (mBool (mOp niF (mVar 3) (mVar 1))) (mBool (mCall B (mSeqA (mOp ixF (mVar 0) (mOp ixF (mVar 1) (mUn negF (mC (.int 1))))) (mSeqA (mOp ixF (mVar 0) (mVar 3)) mNilA))))) (mDrop (mMeth chkL extendF (mVar 2) (mSeqA (mCall G (mSeqA (mVar 0) (mSeqA (mOp addF (mVar 1) (mVal (mLst (mSeqA (mVar 3) mNilA)))) mNilA))) mNilA))) mNext) none
        ((rngI (row.headD 0 + 1) (ds.length - (row.headD 0 + 1)).toNat).map Val.int) [some (vD ds), some (.lst (row.map Val.int)), some (.ref st.length), x] (st ++ [.lst (made.map vI)]) =
        .next [some (vD ds), some (.lst (row.map Val.int)), some (.ref st.length), x'] (st ++ [.lst ((made ++ (extR T ds.length row).flatMap fun p => dfsR T ds.length k (row ++ [p])).map vI)]) := by
    intro made x hm
    obtain ⟨ρ2, st2, e1, us, m2, x2, e2, e3, e4, e5, e6⟩ := loop_inv (t := Tg.name 3) (g := none)
      (body := mIfS (mAnd (mBool (mOp niF (mVar 3) (mVar 1))) (mBool (mCall B (mSeqA (mOp ixF (mVar 0) (mOp ixF (mVar 1) (mUn negF (mC (.int 1))))) (mSeqA (mOp ixF (mVar 0) (mVar 3)) mNilA))))) (mDrop (mMeth chkL extendF (mVar 2) (mSeqA (mCall G (mSeqA (mVar 0) (mSeqA (mOp addF (mVar 1) (mVal (mLst (mSeqA (mVar 3) mNilA)))) mNilA))) mNilA))) mNext)
      (fun vs ρ s => ∃ (us : List Int) (m : List (List Int)) (x : Option Val), vs = us.map Val.int ∧ (∀ p ∈ us, row.headD 0 + 1 ≤ p ∧ p < ds.length ∧ ((!decide (p ∈ row) && rd T (row.getLastD 0) p) = true → p ∈ extR T ds.length row)) ∧ ρ = [some (vD ds), some (.lst (row.map Val.int)), some (.ref st.length), x] ∧ s = st ++ [.lst (m.map vI)] ∧
        m ++ ((us.filter fun p => !decide (p ∈ row) && rd T (row.getLastD 0) p).flatMap fun p => dfsR T ds.length k (row ++ [p])) = made ++ (extR T ds.length row).flatMap fun p => dfsR T ds.length k (row ++ [p]))
      (fun v rest ρ s hJ => by
        obtain ⟨us, m, x, e2, e3, rfl, rfl, e6⟩ := hJ
        cases us with
        | nil => cases e2
        | cons p us =>
          cases e2
          have ep := e3 p List.mem_cons_self
          have hb := hB _ p (st ++ [.lst (m.map vI)]) q1 ⟨by omega, ep.2.1⟩
          have rdp : rd T (row.getLastD 0) p = R (dieAt ds (row.getLastD 0)) (dieAt ds p) := by rw [← hT, rd_tbl q1 ⟨by omega, ep.2.1⟩]
          have id1 := ix_dice (st := st ++ [.lst (m.map vI)]) q1
          have id2 := ix_dice (ds := ds) (p := p) (st := st ++ [.lst (m.map vI)]) ⟨by omega, ep.2.1⟩
          have t1 : mBool (mOp niF (mVar 3) (mVar 1)) [some (vD ds), some (.lst (row.map Val.int)), some (.ref st.length), some (.int p)] (st ++ [.lst (m.map vI)]) = .ok (!decide (p ∈ row)) (st ++ [.lst (m.map vI)]) :=
            t_bool (by simp only [mOp_ap, mVar_ap, List.getElem?_cons_succ, List.getElem?_cons_zero, niF_L])
          have t2 : mBool (mCall B (mSeqA (mOp ixF (mVar 0) (mOp ixF (mVar 1) (mUn negF (mC (.int 1))))) (mSeqA (mOp ixF (mVar 0) (mVar 3)) mNilA))) [some (vD ds), some (.lst (row.map Val.int)), some (.ref st.length), some (.int p)] (st ++ [.lst (m.map vI)]) = .ok (rd T (row.getLastD 0) p) (st ++ [.lst (m.map vI)]) :=
            t_bool (by simp only [mCall_ap, mSeqA_ap, mNilA_ap, mUn_ap, mC_ap, mOp_ap, mVar_ap, List.getElem?_cons_succ, List.getElem?_cons_zero, negF_1, ix_lst (sq _) h1, id1, id2, hb, rdp])
          refine ⟨trivial, [some (vD ds), some (.lst (row.map Val.int)), some (.ref st.length), some (.int p)], rfl, ?_⟩
          have e3' : ∀ q ∈ us, row.headD 0 + 1 ≤ q ∧ q < ds.length ∧ ((!decide (q ∈ row) && rd T (row.getLastD 0) q) = true → q ∈ extR T ds.length row) := fun q hq => e3 q (List.mem_cons_of_mem _ hq)
          by_cases hc : (!decide (p ∈ row) && rd T (row.getLastD 0) p) = true
          · have hx := ep.2.2 hc
            rw [Bool.and_eq_true] at hc
            rw [List.filter_cons_of_pos (by rw [Bool.and_eq_true]; exact hc), List.flatMap_cons, ← List.append_assoc] at e6
            have hzz : m.length + (dfsR T ds.length k (row ++ [p])).length ≤ 1000000 := by
              have := congrArg List.length e6
              simp only [List.length_append] at this hm ⊢
              omega
            refine ⟨_, _, if_yes ?_ (ext_step (B := B) (G := G) hzz (hG p _ hx) (by omega)), us, m ++ dfsR T ds.length k (row ++ [p]), some (.int p), rfl, e3', rfl, rfl, e6⟩
            rw [mAnd_ap, t1, hc.1]
            simp only [if_true]
            rw [t2, hc.2]
          · rw [List.filter_cons, if_neg hc] at e6
            refine ⟨_, _, if_no ?_ rfl, us, m, some (.int p), rfl, e3', rfl, rfl, e6⟩
            rw [mAnd_ap, t1]
            cases hd : decide (p ∈ row) with
            | true => rfl
            | false =>
              rw [hd] at hc
              simp only [Bool.not_false, Bool.true_and, Bool.not_eq_true] at hc
              simp only [Bool.not_false, if_true]
              rw [t2, hc])
      (fun _ _ _ => trivial) _ _ _ ⟨rngI (row.headD 0 + 1) (ds.length - (row.headD 0 + 1)).toNat, made, x, rfl, fun p hp => by
        have hp' := mem_rngI.mp hp
        exact ⟨hp'.1, by omega, fun hc => List.mem_filter.mpr ⟨hp, hc⟩⟩, rfl, rfl, rfl⟩
    have : us = [] := by cases us with
      | nil => rfl
      | cons => cases e2
    subst this
    rw [List.filter_nil, List.flatMap_nil, List.append_nil] at e6
    exact ⟨x2, by rw [e1, e4, e5, e6]⟩
  have hb0 := hB _ _ (st ++ [.lst []]) q1 q0
  have rd0 : rd T (row.getLastD 0) (row.headD 0) = R (dieAt ds (row.getLastD 0)) (dieAt ds (row.headD 0)) := by rw [← hT, rd_tbl q1 q0]
  have id1 := ix_dice (st := st ++ [.lst []]) q1
  have id0 := ix_dice (st := st ++ [.lst []]) q0
  have hz' : (closeR T row).length + ((extR T ds.length row).flatMap fun p => dfsR T ds.length k (row ++ [p])).length ≤ 1000000 := by
    simp only [dfsR, List.length_append] at hz
    exact hz
  obtain ⟨x', e⟩ := step (closeR T row) none hz'
  refine run_ret rfl (st_set (v := .ref st.length) (st1 := st ++ [.lst []]) (by simp [sizeLine]) ?_)
  refine st_go (ρ1 := [some (vD ds), some (.lst (row.map Val.int)), some (.ref st.length), none]) (st1 := st ++ [.lst ((closeR T row).map vI)]) ?_ ?_
  · have t0 : ∀ b, R (dieAt ds (row.getLastD 0)) (dieAt ds (row.headD 0)) = b → mBool (mCall B (mSeqA (mOp ixF (mVar 0) (mOp ixF (mVar 1) (mUn negF (mC (.int 1))))) (mSeqA (mOp ixF (mVar 0) (mOp ixF (mVar 1) (mC (.int 0)))) mNilA))) [some (vD ds), some (.lst (row.map Val.int)), some (.ref st.length), none] (st ++ [.lst []]) = .ok b (st ++ [.lst []]) := fun b hb =>
      t_bool (by simp only [mCall_ap, mSeqA_ap, mNilA_ap, mUn_ap, mC_ap, mOp_ap, mVar_ap, List.getElem?_cons_succ, List.getElem?_cons_zero, negF_1, ix_lst (sq _) h1, ix_hd (sq _) h1, id1, id0, hb0, hb])
    unfold closeR
    rw [rd0]
    cases hc : R (dieAt ds (row.getLastD 0)) (dieAt ds (row.headD 0)) with
    | true =>
      refine if_yes (t0 _ hc) ?_
      have lk : lstAt (st ++ [.lst []]) st.length = some [] := by simp [lstAt]
      simp [chkL, readL, lk, tupG, seqOf, appendF, sizeLine]
    | false => exact if_no (t0 _ hc) rfl
  refine st_go (ρ1 := [some (vD ds), some (.lst (row.map Val.int)), some (.ref st.length), x']) (st1 := _) ?_ (st_ret rfl)
  rw [mFor_ap, mRng2_ap (i := row.headD 0 + 1) (j := ds.length) (st1 := st ++ [.lst ((closeR T row).map vI)]) (st2 := st ++ [.lst ((closeR T row).map vI)]) (by simp [ix_hd (sq _) h1]) (by simp [lenG, seqOf]) (by omega)]
  exact e
end DL

/-! All rings of dice; what holds of all tables of who beats whom, looked through one by one. -/
namespace DL
open PySem PySem.Spec PyProof.Rows L2
/-! ### tables -/
def tb4 (a b c d e f : Nat) : Tb := [[false, a == 1, b == 1, c == 1], [a == 2, false, d == 1, e == 1], [b == 2, d == 2, false, f == 1], [c == 2, e == 2, f == 2, false]]
def tb3 (a b d : Nat) : Tb := [[false, a == 1, b == 1], [a == 2, false, d == 1], [b == 2, d == 2, false]]
def tb2 (a : Nat) : Tb := [[false, a == 1], [a == 2, false]]
def tb1 : Tb := [[false]]
def all3 (f : Nat → Bool) : Bool := f 0 && f 1 && f 2
def codeR (R : List Int → List Int → Bool) (d e : List Int) : Nat := if R d e = true then 1 else if R e d = true then 2 else 0
theorem code_lt (R : List Int → List Int → Bool) (d e : List Int) : codeR R d e < 3 := by
  unfold codeR
  split
  · omega
  · split <;> omega
theorem all3_at {f : Nat → Bool} (h : all3 f = true) {c : Nat} (hc : c < 3) : f c = true := by
  simp only [all3, Bool.and_eq_true] at h
  obtain ⟨⟨h0, h1⟩, h2⟩ := h
  match c, hc with
  | 0, _ => exact h0
  | 1, _ => exact h1
  | 2, _ => exact h2
structure Strict (R : List Int → List Int → Bool) : Prop where
  irr : ∀ d, R d d = false
  asy : ∀ d e, R d e = true → R e d = false
section
variable {R : List Int → List Int → Bool}
theorem code1 (d e : List Int) : (codeR R d e == 1) = R d e := by
  unfold codeR
  cases h : R d e with
  | true => rfl
  | false => cases R e d <;> rfl
theorem code2 (S : Strict R) (d e : List Int) : (codeR R d e == 2) = R e d := by
  unfold codeR
  cases h : R d e with
  | true => rw [S.asy d e h]; rfl
  | false => cases R e d <;> rfl
theorem tbl_all (S : Strict R) {C : Tb → Nat → Bool} (c1 : C tb1 1 = true) (c2 : (all3 fun a => C (tb2 a) 2) = true) (c3 : (all3 fun a => all3 fun b => all3 fun d => C (tb3 a b d) 3) = true)
    (c4 : (all3 fun a => all3 fun b => all3 fun c => all3 fun d => all3 fun e => all3 fun f => C (tb4 a b c d e f) 4) = true) {ds : List (List Int)} (h1 : 1 ≤ ds.length) (h2 : ds.length ≤ 4) : C (tblB R ds) ds.length = true := by
  match ds, h1, h2 with
  | [d], _, _ =>
    have : tblB R [d] = tb1 := by simp [tblB, tb1, S.irr]
    rw [this]; exact c1
  | [d, e], _, _ =>
    have : tblB R [d, e] = tb2 (codeR R d e) := by simp only [tblB, tb2, List.map_cons, List.map_nil, S.irr, code1, code2 S]
    rw [this]
    exact all3_at c2 (code_lt R d e)
  | [d, e, f], _, _ =>
    have : tblB R [d, e, f] = tb3 (codeR R d e) (codeR R d f) (codeR R e f) := by simp only [tblB, tb3, List.map_cons, List.map_nil, S.irr, code1, code2 S]
    rw [this]
    exact all3_at (all3_at (all3_at c3 (code_lt R d e)) (code_lt R d f)) (code_lt R e f)
  | [d, e, f, g], _, _ =>
    have : tblB R [d, e, f, g] = tb4 (codeR R d e) (codeR R d f) (codeR R d g) (codeR R e f) (codeR R e g) (codeR R f g) := by simp only [tblB, tb4, List.map_cons, List.map_nil, S.irr, code1, code2 S]
    rw [this]
    exact all3_at (all3_at (all3_at (all3_at (all3_at (all3_at c4 (code_lt R d e)) (code_lt R d f)) (code_lt R d g)) (code_lt R e f)) (code_lt R e g)) (code_lt R f g)
end
/-! ### who beats whom -/
def relT (S T : List Int) : Bool := decide (cntP Lt S T < cntP Gt S T)
theorem flip_lt (S T : List Int) : cntP Lt T S = cntP Gt S T := by
  have h := match_flip S T
  simp only [matchL, List.reverse_cons, List.reverse_nil, List.nil_append, List.cons_append, List.cons.injEq, and_true] at h
  exact_mod_cast h.2.2
theorem flip_gt (S T : List Int) : cntP Gt T S = cntP Lt S T := (flip_lt T S).symm
abbrev rel1 : List Int → List Int → Bool := relT
def rel2 (d e : List Int) : Bool := relT (totS [d, d]) (totS [e, e])
theorem relT_irr (S : List Int) : relT S S = false := by
  unfold relT
  rw [flip_lt S S]
  exact decide_eq_false (Nat.lt_irrefl _)
theorem relT_asy (S T : List Int) (h : relT S T = true) : relT T S = false := by
  unfold relT at h ⊢
  have h := of_decide_eq_true h
  refine decide_eq_false ?_
  rw [flip_lt S T, flip_gt S T]
  omega
theorem strict1 : Strict rel1 := ⟨relT_irr, relT_asy⟩
theorem strict2 : Strict rel2 := ⟨fun d => relT_irr _, fun d e h => relT_asy _ _ h⟩
/-! ### how many -/
theorem len_flatMap {α β : Type} {f : α → List β} {b : Nat} : ∀ (l : List α), (∀ x ∈ l, (f x).length ≤ b) → (l.flatMap f).length ≤ l.length * b
  | [], _ => by simp
  | x :: l, h => by
    rw [List.flatMap_cons, List.length_append, List.length_cons, Nat.succ_mul, Nat.add_comm]
    exact Nat.add_le_add (len_flatMap l fun y hy => h y (List.mem_cons_of_mem _ hy)) (h x List.mem_cons_self)
theorem ext_len {T : Tb} {n : Nat} {row : List Int} (h : rowOk n row = true) : (extR T n row).length ≤ n := by
  have h0 := (rowOk_iff.mp h).2.2 _ (head_mem (rowOk_iff.mp h).1)
  refine Nat.le_trans (List.length_filter_le _ _) ?_
  simp only [rngI, List.length_map, List.length_range]
  omega
theorem dfs_len {T : Tb} {n : Nat} (hn : n ≤ 4) : ∀ (k : Nat) (row : List Int), rowOk n row = true → (dfsR T n k row).length ≤ 5 ^ k
  | 0, _, _ => by simp [dfsR]
  | k + 1, row, h => by
    have h1 : (closeR T row).length ≤ 1 := by unfold closeR; split <;> simp
    have h2 := len_flatMap (f := fun p => dfsR T n k (row ++ [p])) (b := 5 ^ k) (extR T n row) fun p hp => dfs_len hn k _ (rowOk_snoc h hp)
    have h3 := ext_len (T := T) h
    have h4 : 1 ≤ 5 ^ k := Nat.pow_pos (by decide)
    have h5 : (extR T n row).length * 5 ^ k ≤ 4 * 5 ^ k := Nat.mul_le_mul_right _ (by omega)
    simp only [dfsR, List.length_append, Nat.pow_succ]
    omega
/-- a def that makes a list -/
theorem ref_newlist {P : List Val → Out} {B : FV} (h : ∀ args st, P args = .no ∨ (∃ vs, P args = .val (.lst vs) ∧ (∀ n, ClL n vs) ∧ ∃ g, B args st = .ok (.ref st.length) (st ++ .lst vs :: g)) ∨ (∃ c g, P args = .err c ∧ B args st = .exc c (st ++ g))) : Refines (pureF P) B := fun args st k1 k2 => by
  rcases h args st with e | ⟨vs, e, c, g, b⟩ | ⟨c, g, e, b⟩
  · simp only [pureF, e, Out.res]
  · simp only [pureF, e, Out.res]
    exact ⟨.ref st.length, _, b, Nat.le_refl _, ⟨_, rfl⟩, fun c h => .inl h, .inr ⟨st.length, .lst vs, rfl, Nat.le_refl _, by simp, rfl, rfl, c _⟩⟩
  · simp only [pureF, e, Out.res]
    exact ⟨_, b, trim_same .non⟩
/-! ### the defs -/
def P_rings (R : List Int → List Int → Bool) (k : Nat) : List Val → Out
  | [v, .lst rs] => match diceOf v, intsOf rs with
    | some ds, some row => if rowOk ds.length row = true ∧ ds.length + 1 ≤ k + row.length ∧ k ≤ 6 then .val (.lst ((dfsR (tblB R ds) ds.length k row).map vI)) else .no
    | _, _ => .no
  | _ => .no
def F_ringsK (R : List Int → List Int → Bool) : Nat → FV
  | 0 => fun _ _ => .stuck
  | k + 1 => pureF (P_rings R (k + 1))
def P_allR (R : List Int → List Int → Bool) : List Val → Out
  | [v] => if saneDice v = true then (match diceOf v with
    | none => .err "NoDice"
    | some ds => .val (.lst ((sortR (dfsA (tblB R ds) ds.length)).map vI))) else .no
  | _ => .no
theorem rings_ref {B : FV} {R : List Int → List Int → Bool} (k : Nat) (hB : ∀ d e st, dieN d = true → dieN e = true → B [vI d, vI e] st = .ok (.bl (R d e)) st) :
    Refines (F_ringsK R (k + 1)) (runB 2 4 (ringsM B (F_ringsK R k))) := ref_newlist (P := P_rings R (k + 1)) fun args st => by
  unfold P_rings
  split
  · rename_i v rs
    cases hd : diceOf v with
    | none => exact .inl rfl
    | some ds =>
      cases hi : intsOf rs with
      | none => exact .inl rfl
      | some row =>
        dsimp only
        by_cases hc : rowOk ds.length row = true ∧ ds.length + 1 ≤ (k + 1) + row.length ∧ k + 1 ≤ 6
        · rw [if_pos hc]
          obtain ⟨c1, c2, c3⟩ := hc
          obtain ⟨rfl, hn⟩ := diceOf_eq hd
          rw [intsOf_eq hi]
          have dn : ∀ p : Int, 0 ≤ p ∧ p < (ds.length : Int) → dieN (dieAt ds p) = true := fun p hp => by
            have h1 : p.toNat < ds.length := by omega
            have : dieAt ds p = ds[p.toNat] := by simp [dieAt, h1]
            rw [this]
            exact hn.2.2 _ (List.getElem_mem h1)
          have hz : (dfsR (tblB R ds) ds.length (k + 1) row).length ≤ 1000000 := Nat.le_trans (dfs_len hn.2.1 _ _ c1) (Nat.le_trans (Nat.pow_le_pow_right (by decide) c3) (by decide))
          have e := rings_B (B := B) (G := F_ringsK R k) (R := R) (ds := ds) (row := row) (k := k) hn.2.1 c1 (fun p q st hp hq => hB _ _ st (dn p hp) (dn q hq)) (fun p st hp => by
            have ok := rowOk_snoc c1 hp
            have hl := rowOk_len ok
            rw [List.length_append, List.length_singleton] at hl
            cases k with
            | zero => omega
            | succ k =>
              have h0 := hn.1
              have h4 := hn.2.1
              simp only [F_ringsK, pureF, P_rings, diceOf_vD hn, intsOf_map]
              rw [if_pos ⟨ok, by rw [List.length_append, List.length_singleton]; omega, by omega⟩]
              rfl) hz st
          exact .inr (.inl ⟨_, rfl, fun _ => cl_rows _, [], e⟩)
        · exact .inl (if_neg hc)
  · exact .inl rfl
noncomputable abbrev allM (N G : FV) : MS := (mSeq (mDrop (mCall N (mSeqA (mVar 0) mNilA)))
  (mSeq (mSet 1 (mNew (mLst mNilA)))
  (mSeq (mFor (mRng1 (mCall (lift1 lenG) (mSeqA (mVar 0) mNilA))) (Tg.name 2) (mDrop (mMeth chkL extendF (mVar 1) (mSeqA (mCall G (mSeqA (mVar 0) (mSeqA (mVal (mLst (mSeqA (mVar 2) mNilA))) mNilA))) mNilA))))
  (mRet (mCall (lift1 sortG) (mSeqA (mVar 1) mNilA))))))
theorem all_loop {G : FV} {ds : List (List Int)} {f : Int → List (List Int)} (base : Sto) (hG : ∀ p st, 0 ≤ p → p < (ds.length : Int) → G [vD ds, .lst [.int p]] st = .ok (.lst ((f p).map vI)) st) : ∀ (us : List Int) (made : List (List Int)) (x : Option Val),
    (∀ p ∈ us, 0 ≤ p ∧ p < (ds.length : Int)) → made.length + (us.flatMap f).length ≤ 1000000 → ∃ x', loop (Tg.name 2) (mDrop (mMeth chkL extendF (mVar 1) (mSeqA (mCall G (mSeqA (mVar 0) (mSeqA (mVal (mLst (mSeqA (mVar 2) mNilA))) mNilA))) mNilA))) none (us.map Val.int)
      [some (vD ds), some (.ref base.length), x] (base ++ [.lst (made.map vI)]) = .next [some (vD ds), some (.ref base.length), x'] (base ++ [.lst ((made ++ us.flatMap f).map vI)])
  | [], made, x, _, _ => ⟨x, by simp [loop, Guard]⟩
  | p :: us, made, x, h, hz => by
    have hp := h p List.mem_cons_self
    rw [List.flatMap_cons, List.length_append] at hz
    obtain ⟨x', e⟩ := all_loop base hG us (made ++ f p) (some (.int p)) (fun q hq => h q (List.mem_cons_of_mem _ hq)) (by rw [List.length_append]; omega)
    refine ⟨x', ?_⟩
    have lk : lstAt (base ++ [.lst (made.map vI)]) base.length = some (made.map vI) := by simp [lstAt]
    have z : sizeLine = 16777216 := by decide
    have z1 : made.length + (f p).length ≤ sizeLine := by omega
    have one : mDrop (mMeth chkL extendF (mVar 1) (mSeqA (mCall G (mSeqA (mVar 0) (mSeqA (mVal (mLst (mSeqA (mVar 2) mNilA))) mNilA))) mNilA)) [some (vD ds), some (.ref base.length), some (.int p)] (base ++ [.lst (made.map vI)]) = .next [some (vD ds), some (.ref base.length), some (.int p)] (base ++ [.lst ((made ++ f p).map vI)]) := by
      rw [mDrop_ap]
      simp [chkL, readL, lk, isLD, Val.ofCell, show (1 : Nat) ≤ sizeLine by decide, hG p _ hp.1 hp.2, extendF, listOf, z1]
    rw [List.map_cons]
    simp only [loop, Guard, if_true, Tg.asg, List.set_cons_succ, List.set_cons_zero, one, e]
    rw [List.flatMap_cons, List.append_assoc]
theorem allR_ref {G : FV} {R : List Int → List Int → Bool} (hG : ∀ ds p st, diceN ds → 0 ≤ p → p < (ds.length : Int) → G [vD ds, .lst [.int p]] st = .ok (.lst ((dfsR (tblB R ds) ds.length 6 [p]).map vI)) st) :
    Refines (pureF (P_allR R)) (runB 1 3 (allM F_need_dice G)) := ref_pure fun args st => by
  unfold P_allR
  split
  · rename_i v
    by_cases hs : saneDice v = true
    · rw [if_pos hs]
      cases hd : diceOf v with
      | none => exact .inr (.inr ⟨_, [], rfl, by simp [pureF, P_need_dice, hs, hd]⟩)
      | some ds =>
        have hd0 := hd
        obtain ⟨rfl, hn⟩ := diceOf_eq hd
        have hok : ∀ p ∈ rngI 0 ds.length, rowOk ds.length [p] = true := fun p hp => by
          have := mem_rngI.mp hp
          exact rowOk_iff.mpr ⟨by simp, by simp, fun q hq => by rw [List.mem_singleton] at hq; omega⟩
        have hz : (dfsA (tblB R ds) ds.length).length ≤ 1000000 := by
          refine Nat.le_trans (len_flatMap (b := 5 ^ 6) _ fun p hp => dfs_len hn.2.1 6 [p] (hok p hp)) ?_
          have : (rngI 0 ds.length).length = ds.length := by simp [rngI]
          rw [this]
          have := hn.2.1
          omega
        obtain ⟨x', e⟩ := all_loop (G := G) (ds := ds) (f := fun p => dfsR (tblB R ds) ds.length 6 [p]) st (fun p st h1 h2 => hG ds p st hn h1 h2) (rngI 0 ds.length) [] none (fun p hp => by have := mem_rngI.mp hp; omega) (by rw [List.length_nil, Nat.zero_add]; exact hz)
        have ne : ∀ r ∈ dfsA (tblB R ds) ds.length, r ≠ [] := fun r hr => by
          obtain ⟨p, hp, hr⟩ := List.mem_flatMap.mp hr
          exact (rowOk_iff.mp (dfs_ok 6 [p] (hok p hp) r hr)).1
        refine .inr (.inl ⟨_, [.lst ((dfsA (tblB R ds) ds.length).map vI)], rfl, fun _ => .lst (cl_rows _), ?_⟩)
        have k1 : ∀ st, F_need_dice [vD ds] st = .ok .non st := fun st => by simp [pureF, P_need_dice, hs, hd0]
        refine run_ret rfl (st_drop (v := .non) (st1 := st) (by simp [k1]) ?_)
        refine st_set (v := .ref st.length) (st1 := st ++ [.lst []]) (by simp [sizeLine]) ?_
        refine st_go (ρ1 := [some (vD ds), some (.ref st.length), x']) (st1 := st ++ [.lst ((dfsA (tblB R ds) ds.length).map vI)]) ?_ ?_
        · rw [mFor_ap]
          have l4 : (-1000000 : Int) ≤ ds.length ∧ (ds.length : Int) ≤ 1000000 := by have := hn.2.1; omega
          have : mRng1 (mCall (lift1 lenG) (mSeqA (mVar 0) mNilA)) [some (vD ds), some (.ref st.length), none] (st ++ [.lst []]) = .ok ⟨(rngI 0 ds.length).map Val.int, none⟩ (st ++ [.lst []]) := by
            rw [← rng_ints]
            simp [lenG, seqOf, l4]
          simp only [List.map_cons, List.map_nil, List.cons_append, List.nil_append, List.set_cons_succ, List.set_cons_zero, Nat.reduceSub, List.replicate_succ, List.replicate_zero, this]
          rw [List.map_nil, List.nil_append] at e
          exact e
        have lk : lstAt (st ++ [.lst ((dfsA (tblB R ds) ds.length).map vI)]) st.length = some ((dfsA (tblB R ds) ds.length).map vI) := by simp [lstAt]
        have sg : sortG (.ref st.length) (st ++ [.lst ((dfsA (tblB R ds) ds.length).map vI)]) = some (.lst ((sortR (dfsA (tblB R ds) ds.length)).map vI)) := by
          unfold sortG
          simp only [seqOf, lk]
          rw [if_pos (sortOk_rows ne), sortV_rows]
        exact st_ret (by simp [sg])
    · exact .inl (if_neg hs)
  · exact .inl rfl
end DL

/-! Lists of rows: sorted, equal; rings level by level. -/
namespace DL
open PySem PySem.Spec PyProof.Rows L2
theorem sortR_sorted (rows : List (List Int)) : (sortR rows).Pairwise (· ≤ ·) := by
  have := List.pairwise_mergeSort (le := fun a b : List Int => decide (a ≤ b)) (fun a b c h1 h2 => by
    simp only [decide_eq_true_eq] at *
    exact List.le_trans h1 h2) (fun a b => by
    simp only [Bool.or_eq_true, decide_eq_true_eq]
    exact List.le_total a b) rows
  simpa [sortR] using this
theorem sortR_permEq {S T : List (List Int)} (h : S.Perm T) : sortR S = sortR T :=
  List.Perm.eq_of_pairwise (le := fun a b : List Int => a ≤ b) (fun a b _ _ h1 h2 => List.le_antisymm h1 h2) (sortR_sorted S) (sortR_sorted T) (((sortR_perm S).trans h).trans (sortR_perm T).symm)
theorem nb_vI (ns : List Int) : Val.nb (vI ns) = true ∧ Val.dep (vI ns) ≤ 1 := by
  have : Val.nbs (ns.map Val.int) = true ∧ Val.deps (ns.map Val.int) = 0 := by
    induction ns with
    | nil => exact ⟨rfl, rfl⟩
    | cons n ns ih => exact ⟨by simp [Val.nbs, Val.nb, ih.1], by simp [Val.deps, Val.dep, ih.2]⟩
  exact ⟨by simp [Val.nb, this.1], by simp [Val.dep, this.2]⟩
theorem nb_rows (rows : List (List Int)) : Val.nbs (rows.map vI) = true ∧ Val.deps (rows.map vI) ≤ 1 := by
  induction rows with
  | nil => exact ⟨rfl, by simp [Val.deps]⟩
  | cons r rows ih => exact ⟨by simp only [List.map_cons, Val.nbs, (nb_vI r).1, ih.1, Bool.and_self], by have := ih.2; have := (nb_vI r).2; simp only [List.map_cons, Val.deps]; omega⟩
theorem vI_inj {a b : List Int} : vI a = vI b ↔ a = b := ⟨fun h => by simpa [map_int_inj] using h, fun h => by rw [h]⟩
theorem map_vI_inj {as bs : List (List Int)} : as.map vI = bs.map vI ↔ as = bs := ⟨fun h => (List.map_inj_right fun a b e => vI_inj.mp e).mp h, fun h => by rw [h]⟩
theorem eqF_vR (as bs : List (List Int)) (st : Sto) : eqF (vR as) (vR bs) st = .ok (.bl (decide (as = bs))) st := by
  have h1 := nb_rows as
  have h2 := nb_rows bs
  rw [eqF_nb (by simpa [Val.nb] using h1.1) (by simpa [Val.nb] using h2.1) (by simp [Val.dep]; omega) (by simp [Val.dep]; omega)]
  congr 2
  rw [decide_eq_decide]
  simp [map_vI_inj]
theorem neF_vR (as bs : List (List Int)) (st : Sto) : neF (vR as) (vR bs) st = .ok (.bl (!decide (as = bs))) st := by
  have h1 := nb_rows as
  have h2 := nb_rows bs
  rw [neF_nb (by simpa [Val.nb] using h1.1) (by simpa [Val.nb] using h2.1) (by simp [Val.dep]; omega) (by simp [Val.dep]; omega)]
  congr 3
  rw [decide_eq_decide]
  simp [map_vI_inj]
/-- a list in a cell against a list -/
theorem topData_ref {st : Sto} {l : Nat} {vs : List Val} (h : st[l]? = some (.lst vs)) : topData (.ref l) st = topData (.lst vs) st := by
  simp only [topData, lstAt, h, Val.data, Option.bind]
theorem eqF_refL {st : Sto} {l : Nat} {vs : List Val} {w : Val} (h : st[l]? = some (.lst vs)) : eqF (.ref l) w st = eqF (.lst vs) w st := by
  unfold eqF
  rw [topData_ref h]
theorem eqF_refR {st : Sto} {l : Nat} {vs : List Val} {w : Val} (h : st[l]? = some (.lst vs)) : eqF w (.ref l) st = eqF w (.lst vs) st := by
  unfold eqF
  rw [topData_ref h]
theorem neF_refL {st : Sto} {l : Nat} {vs : List Val} {w : Val} (h : st[l]? = some (.lst vs)) : neF (.ref l) w st = neF (.lst vs) w st := by
  unfold neF
  rw [topData_ref h]
theorem neF_refR {st : Sto} {l : Nat} {vs : List Val} {w : Val} (h : st[l]? = some (.lst vs)) : neF w (.ref l) st = neF w (.lst vs) st := by
  unfold neF
  rw [topData_ref h]
theorem loop_cons {t : Tg} {body : MS} {g : Option (Nat × Cell)} {v : Val} {vs : List Val} {ρ ρ' ρ2 : Rho} {st st2 : Sto} (hg : Guard st g) (ha : t.asg v ρ = some ρ') (hb : body ρ' st = .next ρ2 st2) : loop t body g (v :: vs) ρ st = loop t body g vs ρ2 st2 := by
  simp only [loop, hg, if_true, ha, hb]
theorem loop_nil {t : Tg} {body : MS} {g : Option (Nat × Cell)} {ρ : Rho} {st : Sto} (hg : Guard st g) : loop t body g [] ρ st = .next ρ st := by
  simp only [loop, hg, if_true]
theorem addF_vI {a b : List Int} {st : Sto} (h : a.length + b.length ≤ 1000000) : addF (vI a) (vI b) st = .ok (vI (a ++ b)) st := by
  have z : sizeLine = 16777216 := by decide
  simp only [addF, List.length_map]
  rw [if_pos (by omega), ← List.map_append]
/-! ### level by level -/
def lvlR (T : Tb) (n : Nat) : Nat → List (List Int)
  | 0 => (rngI 0 n).map fun p => [p]
  | k + 1 => (lvlR T n k).flatMap fun row => (extR T n row).map fun p => row ++ [p]
abbrev shutB (T : Tb) (row : List Int) : Bool := decide (1 < row.length) && rd T (row.getLastD 0) (row.headD 0)
def dueR (T : Tb) (n K : Nat) : List (List Int) := (List.range K).flatMap fun k => (lvlR T n k).filter (shutB T)
theorem due_succ (T : Tb) (n K : Nat) : dueR T n (K + 1) = dueR T n K ++ (lvlR T n K).filter (shutB T) := by
  simp [dueR, List.range_succ, List.flatMap_append]
theorem lvl_ok {T : Tb} {n : Nat} : ∀ (k : Nat), ∀ r ∈ lvlR T n k, rowOk n r = true ∧ r.length = k + 1
  | 0, r, hr => by
    obtain ⟨p, hp, rfl⟩ := List.mem_map.mp hr
    have := mem_rngI.mp hp
    exact ⟨rowOk_iff.mpr ⟨by simp, by simp, fun q hq => by rw [List.mem_singleton] at hq; omega⟩, rfl⟩
  | k + 1, r, hr => by
    obtain ⟨row, h1, h2⟩ := List.mem_flatMap.mp hr
    obtain ⟨p, hp, rfl⟩ := List.mem_map.mp h2
    have := lvl_ok k row h1
    exact ⟨rowOk_snoc this.1 hp, by simp [this.2]⟩
theorem lvl_end {T : Tb} {n k : Nat} (h : n ≤ k) : lvlR T n k = [] := by
  cases hq : lvlR T n k with
  | nil => rfl
  | cons r l =>
    have := lvl_ok k r (by rw [hq]; exact List.mem_cons_self)
    have := rowOk_len this.1
    omega
theorem lvl_stop {T : Tb} {n k : Nat} (h : lvlR T n k = []) : ∀ j, lvlR T n (k + j) = [] ∧ dueR T n (k + j) = dueR T n k
  | 0 => ⟨h, rfl⟩
  | j + 1 => by
    obtain ⟨h1, h2⟩ := lvl_stop h j
    refine ⟨?_, ?_⟩
    · show lvlR T n ((k + j) + 1) = []
      simp [lvlR, h1]
    · show dueR T n ((k + j) + 1) = _
      rw [due_succ, h1, h2]
      simp
theorem lvl_len {T : Tb} {n : Nat} (hn : n ≤ 4) : ∀ k, (lvlR T n k).length ≤ 4 ^ (k + 1)
  | 0 => by simp [lvlR, rngI]; omega
  | k + 1 => by
    refine Nat.le_trans (len_flatMap (b := 4) (lvlR T n k) fun r hr => ?_) ?_
    · rw [List.length_map]
      exact Nat.le_trans (ext_len (lvl_ok k r hr).1) hn
    · rw [Nat.pow_succ]
      exact Nat.mul_le_mul_right 4 (lvl_len hn k)
def chkD (T : Tb) (n : Nat) : Bool := (dfsA T n).isPerm (dueR T n 5)
theorem due_perm {R : List Int → List Int → Bool} (S : Strict R) {ds : List (List Int)} (h1 : 1 ≤ ds.length) (h2 : ds.length ≤ 4) : (dfsA (tblB R ds) ds.length).Perm (dueR (tblB R ds) ds.length 5) :=
  List.isPerm_iff.mp (tbl_all (C := chkD) S (by decide +kernel) (by decide +kernel) (by decide +kernel) (by decide +kernel) h1 h2)
end DL

/-! Whether a thing is a ring. -/
namespace DL
open PySem PySem.Spec PyProof.Rows L2
theorem dd_le : ∀ l : List Int, (dd l).length ≤ l.length
  | [] => Nat.le_refl _
  | a :: l => by
    have := dd_le l
    unfold dd
    split
    · rw [List.length_cons]; omega
    · rw [List.length_cons, List.length_cons]; omega
theorem dd_len : ∀ l : List Int, (dd l).length = l.length ↔ l.Nodup
  | [] => by simp [dd]
  | a :: l => by
    have h1 := dd_le l
    have h2 := dd_len l
    unfold dd
    by_cases h : a ∈ l
    · rw [if_pos h, List.length_cons, List.nodup_cons]
      exact ⟨fun z => by omega, fun z => absurd h z.1⟩
    · rw [if_neg h, List.length_cons, List.length_cons, List.nodup_cons, ← h2]
      exact ⟨fun z => ⟨h, by omega⟩, fun z => by omega⟩
abbrev nextP (row : List Int) : List (Int × Int) := row.zip (row.drop 1 ++ row.take 1)
def roundB (T : Tb) (row : List Int) : Bool := decide (2 ≤ row.length) && (nextP row).all fun q => rd T q.1 q.2
def ringB (T : Tb) (n : Nat) (row : List Int) : Bool := row.all (fun p => decide (0 ≤ p ∧ p < (n : Int))) && decide row.Nodup && roundB T row
def P_isR (R : List Int → List Int → Bool) : List Val → Out
  | [v, t] => if saneDice v = true then (match diceOf v with
    | none => .err "NoDice"
    | some ds => match t with
      | .tup vs => if vs.all Val.top = true ∧ vs.length ≤ 500 then .val (.bl (match intsOf vs with
        | some row => ringB (tblB R ds) ds.length row
        | none => false)) else .no
      | t => if t.top = true then .val (.bl false) else .no) else .no
  | _ => .no
theorem zipF_ints : ∀ xs ys : List Int, zipF (xs.map Val.int) (ys.map Val.int) = (xs.zip ys).map fun p => .tup [.int p.1, .int p.2]
  | [], ys => by cases ys <;> rfl
  | x :: xs, [] => rfl
  | x :: xs, y :: ys => by simp only [List.map_cons, zipF, zipF_ints xs ys, List.zip_cons_cons]
/-- [b(p, q) for p, q in zip(..)] -/
theorem comp_zip {i j : Nat} {elt : ME} {ρ : Rho} {st : Sto} (f : Int × Int → Bool) (ps : List (Int × Int)) (h : ∀ p ∈ ps, elt ((ρ.set i (some (.int p.1))).set j (some (.int p.2))) st = .ok (.bl (f p)) st) :
    compLoop (Tg.tup [i, j]) mTrue elt none ρ (ps.map fun p => .tup [.int p.1, .int p.2]) [] st = .ok ((ps.map f).map Val.bl) st := by
  refine (comp_pure none trivial (fun v => match v with | .tup [.int p, .int q] => .bl (f (p, q)) | v => v) (ps.map fun p => Val.tup [.int p.1, .int p.2]) [] fun v hv => ?_).trans ?_
  · obtain ⟨p, hp, rfl⟩ := List.mem_map.mp hv
    exact ⟨_, rfl, rfl, h p hp⟩
  · rw [List.nil_append, List.map_map, List.map_map]
    rfl
theorem allG_bls (bs : List Bool) (st : Sto) : allG (.lst (bs.map Val.bl)) st = some (.bl (bs.all id)) := by
  simp only [allG, readL, Option.bind_some, boolsOf_map, Option.map_some]
theorem anyG_bls (bs : List Bool) (st : Sto) : anyG (.lst (bs.map Val.bl)) st = some (.bl (bs.any id)) := by
  simp only [anyG, readL, Option.bind_some, boolsOf_map, Option.map_some]
theorem ints_of_whole : ∀ {vs : List Val} {lo hi : Int}, vs.all (fun v => wholeB v lo hi) = true → ∃ row : List Int, vs = row.map Val.int ∧ ∀ p ∈ row, lo ≤ p ∧ p ≤ hi
  | [], _, _, _ => ⟨[], rfl, fun _ h => nomatch h⟩
  | v :: vs, lo, hi, h => by
    rw [List.all_cons, Bool.and_eq_true] at h
    obtain ⟨row, rfl, h2⟩ := ints_of_whole h.2
    cases v with
    | int i =>
      have h1 : lo ≤ i ∧ i ≤ hi := by simpa [wholeB] using h.1
      refine ⟨i :: row, rfl, fun p hp => ?_⟩
      rcases List.mem_cons.mp hp with rfl | hp
      · exact h1
      · exact h2 p hp
    | _ => simp [wholeB] at h
theorem whole_ints {row : List Int} {lo hi : Int} : (row.map Val.int).all (fun v => wholeB v lo hi) = row.all fun p => decide (lo ≤ p ∧ p ≤ hi) := by
  rw [List.all_map]
  rfl
noncomputable abbrev isRM (B : FV) : MS := (mSeq (mDrop (mCall F_need_dice (mSeqA (mVar 0) mNilA)))
  (mSeq (mIfS (mOr (mNot (mBool (mIsi .tup (mVar 1)))) (mOr (mBool (mOp ltF (mCall (lift1 lenG) (mSeqA (mVar 1) mNilA)) (mC (.int 2)))) (mNot (mBool (mCall (lift1 allG) (mSeqA (mVal (mComp (mItT (mVar 1)) (Tg.name 2) mTrue (mCall F_is_whole (mSeqA (mVar 2) (mSeqA (mC (.int 0)) (mSeqA (mOp subF (mCall (lift1 lenG) (mSeqA (mVar 0) mNilA)) (mC (.int 1))) mNilA)))) [2])) mNilA)))))) (mRet (mC (.bl false))) mNext)
  (mSeq (mIfS (mBool (mOp neF (mLenSet (mVar 1)) (mCall (lift1 lenG) (mSeqA (mVar 1) mNilA)))) (mRet (mC (.bl false))) mNext)
  (mRet (mCall (lift1 allG) (mSeqA (mVal (mComp (mZipT (mVar 1) (mOp addF (mSlice (mVar 1) (mPart (mC (.int 1))) mNo) (mSlice (mVar 1) mNo (mPart (mC (.int 1)))))) (Tg.tup [2, 3]) mTrue (mCall B (mSeqA (mOp ixF (mVar 0) (mVar 2)) (mSeqA (mOp ixF (mVar 0) (mVar 3)) mNilA))) [2, 3])) mNilA))))))
theorem isR_ref {B : FV} {R : List Int → List Int → Bool} (hB : ∀ d e st, dieN d = true → dieN e = true → B [vI d, vI e] st = .ok (.bl (R d e)) st) : Refines (pureF (P_isR R)) (runB 2 4 (isRM B)) := ref_pure fun args st => by
  unfold P_isR
  split
  · rename_i v t
    by_cases hs : saneDice v = true
    · rw [if_pos hs]
      cases hd : diceOf v with
      | none => exact .inr (.inr ⟨_, [], rfl, by simp [pureF, P_need_dice, hs, hd]⟩)
      | some ds =>
        have hd0 := hd
        obtain ⟨rfl, hn⟩ := diceOf_eq hd
        have k1 : ∀ st, F_need_dice [vD ds] st = .ok .non st := fun st => by simp [pureF, P_need_dice, hs, hd0]
        -- what is no tuple
        have bad : ∀ n, tyOf t st = some n → isTy n .tup = false → runB 2 4 (isRM B) [vD ds, t] st = .ok (.bl false) (st ++ []) := fun n hn1 hn2 => by
          rw [List.append_nil]
          refine run_ret rfl (st_drop (v := .non) (st1 := st) (by simp [k1]) ?_)
          rw [mSeq_ap, mIfS_ap, mOr_ap, mNot_ap, mBool_ap, mIsi_ap]
          simp [hn1, hn2]
        dsimp only
        cases t with
        | tup vs =>
          dsimp only
          by_cases hv : vs.all Val.top = true ∧ vs.length ≤ 500
          · rw [if_pos hv]
            obtain ⟨hv, hz⟩ := hv
            refine .inr (.inl ⟨_, [], rfl, fun _ => .bl _, ?_⟩)
            rw [List.append_nil]
            refine run_ret rfl (st_drop (v := .non) (st1 := st) (by simp [k1]) ?_)
            simp only [List.map_cons, List.map_nil, List.cons_append, List.nil_append, Nat.reduceSub, List.replicate_succ, List.replicate_zero]
            have t1 : mNot (mBool (mIsi .tup (mVar 1))) [some (vD ds), some (.tup vs), none, none] st = .ok false st := by
              rw [t_not (k := true) (t_bool (by simp [tyOf, isTy]))]
              rfl
            have t2 : mBool (mOp ltF (mCall (lift1 lenG) (mSeqA (mVar 1) mNilA)) (mC (.int 2))) [some (vD ds), some (.tup vs), none, none] st = .ok (decide (vs.length < 2)) st := by
              refine t_bool ?_
              have : decide (((vs.length : Nat) : Int) < 2) = decide (vs.length < 2) := by rw [decide_eq_decide]; omega
              simp [lenG, seqOf, ltF, this]
            by_cases hl : vs.length < 2
            · -- too short
              refine (show _ = ResS.ret _ st from ?_)
              rw [mSeq_ap, if_yes (r := .ret (.bl false) st) (t_or t1 (by rw [mOr_ap, t2, decide_eq_true hl]; rfl)) rfl]
              dsimp only
              congr 2
              cases hi : intsOf vs with
              | none => rfl
              | some row =>
                have := intsOf_eq hi
                subst this
                rw [List.length_map] at hl
                have : ¬ 2 ≤ row.length := by omega
                simp [ringB, roundB, this]
            · have t3 : mCall (lift1 allG) (mSeqA (mVal (mComp (mItT (mVar 1)) (Tg.name 2) mTrue (mCall F_is_whole (mSeqA (mVar 2) (mSeqA (mC (.int 0)) (mSeqA (mOp subF (mCall (lift1 lenG) (mSeqA (mVar 0) mNilA)) (mC (.int 1))) mNilA)))) [2])) mNilA) [some (vD ds), some (.tup vs), none, none] st = .ok (.bl (vs.all fun v => wholeB v 0 ((ds.length : Nat) - 1))) st := by
                have hc : compLoop (Tg.name 2) mTrue (mCall F_is_whole (mSeqA (mVar 2) (mSeqA (mC (.int 0)) (mSeqA (mOp subF (mCall (lift1 lenG) (mSeqA (mVar 0) mNilA)) (mC (.int 1))) mNilA)))) none [some (vD ds), some (.tup vs), none, none] vs [] st = .ok ((vs.map fun v => wholeB v 0 ((ds.length : Nat) - 1)).map Val.bl) st := by
                  refine (comp_pure none trivial (fun v => .bl (wholeB v 0 ((ds.length : Nat) - 1))) vs [] fun v hv' => ?_).trans ?_
                  · have := List.all_eq_true.mp hv v hv'
                    exact ⟨_, rfl, rfl, by simp [lenG, seqOf, pureF, P_is_whole, this]⟩
                  · rw [List.nil_append, List.map_map]
                    rfl
                simp [itemsT, wipeR, hc, isLD, Val.ofCell, allG_bls]
                rw [← List.map_map, allG_bls]
                simp [Function.comp_def]
              cases hw : vs.all (fun v => wholeB v 0 ((ds.length : Nat) - 1)) with
              | false =>
                rw [hw] at t3
                rw [mSeq_ap, if_yes (r := .ret (.bl false) st) (t_or t1 (t_or (by rw [t2, decide_eq_false hl]) ((t_not (t_bool t3)).trans rfl))) rfl]
                dsimp only
                congr 2
                cases hi : intsOf vs with
                | none => rfl
                | some row =>
                  have := intsOf_eq hi
                  subst this
                  rw [whole_ints] at hw
                  have : (row.all fun p => decide (0 ≤ p ∧ p < (ds.length : Int))) = false := by
                    rw [← hw]
                    congr 1
                    funext p
                    rw [decide_eq_decide]
                    omega
                  simp only [ringB, this, Bool.false_and]
              | true =>
                rw [hw] at t3
                obtain ⟨row, rfl, hr⟩ := ints_of_whole hw
                rw [List.length_map] at hl hz
                refine st_no (t_or t1 (t_or (by rw [t2, List.length_map, decide_eq_false hl]) ((t_not (t_bool t3)).trans rfl))) ?_
                have hin : (row.all fun p => decide (0 ≤ p ∧ p < (ds.length : Int))) = true := List.all_eq_true.mpr fun p hp => decide_eq_true (by have := hr p hp; omega)
                have ls : mLenSet (mVar 1) [some (vD ds), some (vI row), none, none] st = .ok (.int ((dd row).length : Nat)) st := by
                  unfold mLenSet
                  simp only [mVar_ap, List.getElem?_cons_succ, List.getElem?_cons_zero, Res.bind_ok, intsOf_map]
                  rw [if_pos (by omega)]
                have t4 : mBool (mOp neF (mLenSet (mVar 1)) (mCall (lift1 lenG) (mSeqA (mVar 1) mNilA))) [some (vD ds), some (vI row), none, none] st = .ok (!decide row.Nodup) st := by
                  refine t_bool ?_
                  have : decide (((dd row).length : Int) = (row.length : Nat)) = decide row.Nodup := by
                    rw [decide_eq_decide, ← dd_len]
                    omega
                  simp [ls, lenG, seqOf, neF_int, this]
                simp only [intsOf_map]
                by_cases hnd : row.Nodup
                · refine st_no (by rw [t4, decide_eq_true hnd]; rfl) (st_ret ?_)
                  have s1 : mSlice (mVar 1) (mPart (mC (.int 1))) mNo [some (vD ds), some (vI row), none, none] st = .ok (vI (row.drop 1)) st :=
                    mSlice_ap (v := vI row) (l := some ((1 : Nat) : Int)) (h := none) (st1 := st) (st2 := st) (by simp) (by simp) rfl (by simp only [sliceG, cut_drop _ (show 1 ≤ (row.map Val.int).length by rw [List.length_map]; omega), vI, List.map_drop])
                  have s2 : mSlice (mVar 1) mNo (mPart (mC (.int 1))) [some (vD ds), some (vI row), none, none] st = .ok (vI (row.take 1)) st :=
                    mSlice_ap (v := vI row) (l := none) (h := some ((1 : Nat) : Int)) (st1 := st) (st2 := st) (by simp) rfl (by simp) (by simp only [sliceG, cut_take _ (show 1 ≤ (row.map Val.int).length by rw [List.length_map]; omega), vI, List.map_take])
                  have s3 : addF (vI (row.drop 1)) (vI (row.take 1)) st = .ok (vI (row.drop 1 ++ row.take 1)) st := addF_vI (by rw [List.length_drop, List.length_take]; omega)
                  have zp : mZipT (mVar 1) (mOp addF (mSlice (mVar 1) (mPart (mC (.int 1))) mNo) (mSlice (mVar 1) mNo (mPart (mC (.int 1))))) [some (vD ds), some (vI row), none, none] st = .ok ⟨(nextP row).map fun p => .tup [.int p.1, .int p.2], none⟩ st := by
                    unfold mZipT
                    simp only [mVar_ap, List.getElem?_cons_succ, List.getElem?_cons_zero, Res.bind_ok, mOp_ap, s1, s2, s3, zipIt, zipF_ints]
                  have mem : ∀ p ∈ nextP row, (0 ≤ p.1 ∧ p.1 < (ds.length : Int)) ∧ (0 ≤ p.2 ∧ p.2 < (ds.length : Int)) := fun p hp => by
                    have h1 := (List.of_mem_zip (a := p.1) (b := p.2) hp).1
                    have h2 := (List.of_mem_zip (a := p.1) (b := p.2) hp).2
                    have h3 : p.2 ∈ row := by
                      rcases List.mem_append.mp h2 with h | h
                      · exact List.mem_of_mem_drop h
                      · exact List.mem_of_mem_take h
                    have := hr _ h1
                    have := hr _ h3
                    omega
                  have dn : ∀ p : Int, 0 ≤ p ∧ p < (ds.length : Int) → dieN (dieAt ds p) = true := fun p hp => by
                    have h1 : p.toNat < ds.length := by omega
                    have : dieAt ds p = ds[p.toNat] := by simp [dieAt, h1]
                    rw [this]
                    exact hn.2.2 _ (List.getElem_mem h1)
                  have hc := comp_zip (i := 2) (j := 3) (elt := mCall B (mSeqA (mOp ixF (mVar 0) (mVar 2)) (mSeqA (mOp ixF (mVar 0) (mVar 3)) mNilA))) (ρ := [some (vD ds), some (vI row), none, none]) (st := st) (fun q => rd (tblB R ds) q.1 q.2) (nextP row) fun p hp => by
                    obtain ⟨m1, m2⟩ := mem p hp
                    simp only [List.set_cons_succ, List.set_cons_zero, mCall_ap, mSeqA_ap, mNilA_ap, mOp_ap, mVar_ap, List.getElem?_cons_succ, List.getElem?_cons_zero, ix_dice m1, ix_dice m2, hB _ _ _ (dn _ m1) (dn _ m2), rd_tbl m1 m2]
                  simp only [mCall_ap, mSeqA_ap, mVal_ap, mComp_ap, zp, wipeR, List.set_cons_succ, List.set_cons_zero, hc, isLD, if_true, Val.ofCell, mNilA_ap, lift1_ap, allG_bls]
                  congr 2
                  have h2 : 2 ≤ row.length := by omega
                  simp only [ringB, hin, decide_eq_true hnd, roundB, decide_eq_true h2, Bool.true_and]
                  rw [List.all_map]
                  rfl
                · rw [mSeq_ap, if_yes (r := .ret (.bl false) st) (by rw [t4, decide_eq_false hnd]; rfl) rfl]
                  dsimp only
                  congr 2
                  simp only [ringB, decide_eq_false hnd, Bool.and_false, Bool.false_and]
          · exact .inl (if_neg hv)
        | non => exact .inr (.inl ⟨_, [], rfl, fun _ => .bl _, bad _ rfl rfl⟩)
        | bl b => exact .inr (.inl ⟨_, [], rfl, fun _ => .bl _, bad _ rfl rfl⟩)
        | int b => exact .inr (.inl ⟨_, [], rfl, fun _ => .bl _, bad _ rfl rfl⟩)
        | str b => exact .inr (.inl ⟨_, [], rfl, fun _ => .bl _, bad _ rfl rfl⟩)
        | lst b => exact .inr (.inl ⟨_, [], rfl, fun _ => .bl _, bad _ rfl rfl⟩)
        | _ => exact .inl rfl
    · exact .inl (if_neg hs)
  · exact .inl rfl
/-! ### looked through one by one -/
def transB (T : Tb) (n : Nat) : Bool := (rngI 0 n).all fun p => (rngI 0 n).all fun q => (rngI 0 n).all fun r => !(rd T p q && rd T q r) || rd T p r
theorem no_ring {R : List Int → List Int → Bool} (S : Strict R) {ds : List (List Int)} (h1 : 1 ≤ ds.length) (h2 : ds.length ≤ 4) (ht : transB (tblB R ds) ds.length = true) : dfsA (tblB R ds) ds.length = [] := by
  have := tbl_all (C := fun T n => !transB T n || (dfsA T n).isEmpty) S (by decide +kernel) (by decide +kernel) (by decide +kernel) (by decide +kernel) h1 h2
  simp only [ht, Bool.not_true, Bool.false_or] at this
  exact List.isEmpty_iff.mp this
theorem rings_are {R : List Int → List Int → Bool} (S : Strict R) {ds : List (List Int)} (h1 : 1 ≤ ds.length) (h2 : ds.length ≤ 4) : ∀ r ∈ dfsA (tblB R ds) ds.length, ringB (tblB R ds) ds.length r = true := by
  have := tbl_all (C := fun T n => (dfsA T n).all fun r => ringB T n r) S (by decide +kernel) (by decide +kernel) (by decide +kernel) (by decide +kernel) h1 h2
  exact List.all_eq_true.mp this
end DL

/-! All rows of places; the first row in which none beats one ahead. -/
namespace DL
open PySem PySem.Spec PyProof.Rows L2
abbrev lI (row : List Int) : Val := .lst (row.map Val.int)
theorem enc_lI (ns : List Int) : (lI ns).enc = .list (ns.map PyData.int) := by simp [Val.enc, Val.data]
theorem datas_lI : ∀ rows : List (List Int), Val.datas (rows.map lI) = some (rows.map fun r => .list (r.map PyData.int))
  | [] => rfl
  | r :: rows => by simp [Val.datas, Val.data, datas_lI rows]
theorem sortV_lI (rows : List (List Int)) : sortV (rows.map lI) = (sortR rows).map lI := by
  unfold sortV sortR
  symm
  apply List.map_mergeSort
  intro a _ b _
  have := congrFun (congrFun (PySem.W.dataLe_rows (fun b : List Int => b)) a) b
  rw [← this]
  simp only [PySem.W.dataLe, PySem.W.sortLe, enc_lI, PySem.W.keyToks]
theorem sortOk_lI (rows : List (List Int)) : SortOk (rows.map lI) := by
  refine ⟨_, datas_lI rows, ?_, .inr ?_, ?_⟩
  · intro d hd e he
    obtain ⟨a, _, rfl⟩ := List.mem_map.mp hd
    obtain ⟨b, _, rfl⟩ := List.mem_map.mp he
    rw [PySem.W.alike]
    exact PySem.W.alike_ints a b
  · intro d hd
    obtain ⟨r, hr, rfl⟩ := List.mem_map.mp hd
    exact ⟨(fun h => nomatch h), (fun xs h => nomatch h)⟩
  · intro d hd
    obtain ⟨r, hr, rfl⟩ := List.mem_map.mp hd
    simp [PyData.depth, PySem.W.depth_ints]
theorem nb_lI (ns : List Int) : Val.nb (lI ns) = true ∧ Val.dep (lI ns) ≤ 1 := by
  have : Val.nbs (ns.map Val.int) = true ∧ Val.deps (ns.map Val.int) = 0 := by
    induction ns with
    | nil => exact ⟨rfl, rfl⟩
    | cons n ns ih => exact ⟨by simp [Val.nbs, Val.nb, ih.1], by simp [Val.deps, Val.dep, ih.2]⟩
  exact ⟨by simp [Val.nb, this.1], by simp [Val.dep, this.2]⟩
def prmR (n : Nat) : Nat → List (List Int)
  | 0 => [[]]
  | k + 1 => (prmR n k).flatMap fun line => ((rngI 0 n).filter fun p => !decide (p ∈ line)).map fun p => line ++ [p]
def allRows (n k : Nat) : List (List Int) := (List.range k).flatMap fun j => prmR n (j + 1)
theorem all_succ (n k : Nat) : allRows n (k + 1) = allRows n k ++ prmR n (k + 1) := by
  simp [allRows, List.range_succ, List.flatMap_append]
theorem prm_ok {n : Nat} : ∀ (k : Nat), ∀ r ∈ prmR n k, r.length = k ∧ r.Nodup ∧ ∀ p ∈ r, 0 ≤ p ∧ p < (n : Int)
  | 0, r, hr => by
    rw [prmR, List.mem_singleton] at hr
    subst hr
    exact ⟨rfl, List.nodup_nil, fun _ h => nomatch h⟩
  | k + 1, r, hr => by
    obtain ⟨line, h1, h2⟩ := List.mem_flatMap.mp hr
    obtain ⟨p, hp, rfl⟩ := List.mem_map.mp h2
    obtain ⟨l1, l2, l3⟩ := prm_ok k line h1
    obtain ⟨hp1, hp2⟩ := List.mem_filter.mp hp
    have hp1 := mem_rngI.mp hp1
    have hp2 : p ∉ line := by simpa using hp2
    refine ⟨by simp [l1], ?_, fun q hq => ?_⟩
    · rw [List.nodup_append]
      exact ⟨l2, by simp, fun a ha b hb => by
        rw [List.mem_singleton] at hb
        rintro rfl
        exact hp2 (hb ▸ ha)⟩
    · rw [List.mem_append, List.mem_singleton] at hq
      rcases hq with hq | rfl
      · exact l3 q hq
      · omega
theorem prm_len {n : Nat} (hn : n ≤ 4) : ∀ k, (prmR n k).length ≤ 4 ^ k
  | 0 => by simp [prmR]
  | k + 1 => by
    refine Nat.le_trans (len_flatMap (b := 4) (prmR n k) fun r hr => ?_) ?_
    · rw [List.length_map]
      refine Nat.le_trans (List.length_filter_le _ _) ?_
      simp only [rngI, List.length_map, List.length_range]
      exact hn
    · rw [Nat.pow_succ]
      exact Nat.mul_le_mul_right 4 (prm_len hn k)
theorem all_mem {n k : Nat} {r : List Int} (h : r ∈ allRows n k) : ∃ j, j < k ∧ r ∈ prmR n (j + 1) := by
  obtain ⟨j, h1, h2⟩ := List.mem_flatMap.mp h
  exact ⟨j, List.mem_range.mp h1, h2⟩
theorem allRows_ok {n k : Nat} : ∀ r ∈ allRows n k, rowOk n r = true ∧ r.length ≤ k := fun r h => by
  obtain ⟨j, h1, h2⟩ := all_mem h
  obtain ⟨l1, l2, l3⟩ := prm_ok (j + 1) r h2
  refine ⟨rowOk_iff.mpr ⟨?_, l2, l3⟩, by omega⟩
  rintro rfl
  simp at l1
theorem all_len {n k : Nat} (hn : n ≤ 4) (hk : k ≤ 4) : (allRows n k).length ≤ 5000 := by
  have := len_flatMap (f := fun j => prmR n (j + 1)) (b := 4 ^ 5) (List.range k) fun j hj => by
    have := List.mem_range.mp hj
    exact Nat.le_trans (prm_len hn (j + 1)) (Nat.pow_le_pow_right (by decide) (by omega))
  rw [List.length_range] at this
  unfold allRows
  omega
/-- the least place first, each beats the next one -/
abbrev leadB (T : Tb) (l : List Int) : Bool := decide (l.headD 0 = minI l) && roundB T l
def dueA (T : Tb) (n : Nat) : List (List Int) := (allRows n n).filter (leadB T)
/-- none beats one ahead of it -/
def goodB (T : Tb) (line : List Int) : Bool := (rngI 0 line.length).all fun k => !((line.drop (k.toNat + 1)).any fun one => rd T one (line.getD k.toNat 0))
def goods (T : Tb) (n : Nat) : List (List Int) := (prmR n n).filter (goodB T)
abbrev freeR (T : Tb) (left : List Int) : List Int := left.filter fun one => !left.any fun o => rd T o one
def ordG (T : Tb) : Nat → List Int → List Int → Option (List Int)
  | 0, _, made => some made
  | k + 1, left, made => if left = [] then some made else match freeR T left with
    | [] => none
    | m :: _ => ordG T k (left.filter fun p => !decide (p = m)) (made ++ [m])
def ordR (T : Tb) (n : Nat) : Option (List Int) := ordG T (n + 1) (rngI 0 n) []
def chkO (T : Tb) (n : Nat) : Bool := match ordR T n with
  | some m => decide (m ∈ goods T n) && (goods T n).all (fun g => decide (m ≤ g)) && (dueA T n).isEmpty
  | none => (goods T n).isEmpty && !(dueA T n).isEmpty
section
variable {R : List Int → List Int → Bool} (S : Strict R) {ds : List (List Int)} (h1 : 1 ≤ ds.length) (h2 : ds.length ≤ 4)
include S h1 h2
theorem dueA_perm : (dfsA (tblB R ds) ds.length).Perm (dueA (tblB R ds) ds.length) :=
  List.isPerm_iff.mp (tbl_all (C := fun T n => (dfsA T n).isPerm (dueA T n)) S (by decide +kernel) (by decide +kernel) (by decide +kernel) (by decide +kernel) h1 h2)
theorem ord_ok : chkO (tblB R ds) ds.length = true :=
  tbl_all (C := chkO) S (by decide +kernel) (by decide +kernel) (by decide +kernel) (by decide +kernel) h1 h2
end
theorem head_least {S : List (List Int)} {m : List Int} (h1 : m ∈ S) (h2 : ∀ g ∈ S, m ≤ g) : ∃ l, sortR S = m :: l := by
  have p := sortR_perm S
  have s := sortR_sorted S
  cases hq : sortR S with
  | nil =>
    rw [hq] at p
    have := p.symm.mem_iff.mp h1
    cases this
  | cons x l =>
    rw [hq] at p s
    have a1 : m ≤ x := h2 x (p.mem_iff.mp List.mem_cons_self)
    have a2 : x ≤ m := by
      rcases List.mem_cons.mp (p.symm.mem_iff.mp h1) with rfl | h
      · exact a1
      · exact (List.pairwise_cons.mp s).1 m h
    exact ⟨l, by rw [List.le_antisymm a1 a2]⟩
/-- a def that changes nothing, its result told by a new cell, or plainly -/
theorem ref_trim {P : List Val → Out} {B : FV} (h : ∀ args st, P args = .no ∨ (∃ v, P args = .val v ∧ ∃ v' g, B args st = .ok v' (st ++ g) ∧ ((v = v' ∧ ∀ n, ClV n v) ∨ ∃ l c, v' = .ref l ∧ st.length ≤ l ∧ (st ++ g)[l]? = some c ∧ isLD c = true ∧ v = .ofCell c ∧ ∀ n, ClC n c)) ∨ ∃ c g, P args = .err c ∧ B args st = .exc c (st ++ g)) : Refines (pureF P) B := fun args st k1 k2 => by
  rcases h args st with e | ⟨v, e, v', g, b, h | ⟨l, c, h1, h2, h3, h4, h5, h6⟩⟩ | ⟨c, g, e, b⟩
  · simp only [pureF, e, Out.res]
  · simp only [pureF, e, Out.res]
    exact ⟨v', _, b, by rw [h.1.symm]; exact trim_same (h.2 _)⟩
  · simp only [pureF, e, Out.res]
    exact ⟨v', _, b, Nat.le_refl _, ⟨_, rfl⟩, fun c h => .inl h, .inr ⟨l, c, h1, h2, h3, h4, h5, h6 _⟩⟩
  · simp only [pureF, e, Out.res]
    exact ⟨_, b, trim_same .non⟩
end DL

/-! Guesses: what an object holds, what its methods tell, in plain Lean. -/
namespace DL
open PySem PySem.Spec PyProof.Rows L2
/-- a book read -/
def bkOf : List (Key × V) → Option (List (Int × Int))
  | [] => some []
  | (.inl t, .int n) :: kvs => (bkOf kvs).map fun b => (t, n) :: b
  | _ :: _ => none
theorem bkOf_toK : ∀ b : List (Int × Int), bkOf (toK b) = some b
  | [] => rfl
  | (t, n) :: b => by
    show (bkOf (toK b)).map _ = _
    rw [bkOf_toK b]
    rfl
theorem bkOf_eq : ∀ {kvs : List (Key × V)} {b : List (Int × Int)}, bkOf kvs = some b → kvs = toK b
  | [], _, h => by cases h; rfl
  | (.inl t, .int n) :: kvs, _, h => by
    simp only [bkOf] at h
    cases e : bkOf kvs with
    | none => rw [e] at h; cases h
    | some b =>
      rw [e] at h
      cases h
      rw [bkOf_eq e]
      rfl
  | (.inl t, .non) :: kvs, _, h => by cases h
  | (.inl t, .bl _) :: kvs, _, h => by cases h
  | (.inl t, .str _) :: kvs, _, h => by cases h
  | (.inl t, .ref _) :: kvs, _, h => by cases h
  | (.inl t, .flt _) :: kvs, _, h => by cases h
  | (.inl t, .byt _) :: kvs, _, h => by cases h
  | (.inl t, .ty _) :: kvs, _, h => by cases h
  | (.inr x, _) :: kvs, _, h => by cases h
abbrev dK (b : List (Int × Int)) : Val := .dic (toK b)
def booksOf : List Val → Option (List (List (Int × Int)))
  | [] => some []
  | .dic kvs :: vs => match bkOf kvs, booksOf vs with
    | some b, some bs => some (b :: bs)
    | _, _ => none
  | _ :: _ => none
theorem booksOf_dK : ∀ bs : List (List (Int × Int)), booksOf (bs.map dK) = some bs
  | [] => rfl
  | b :: bs => by
    show (match bkOf (toK b), booksOf (bs.map dK) with | some b, some bs => some (b :: bs) | _, _ => none) = _
    rw [bkOf_toK, booksOf_dK bs]
theorem booksOf_eq : ∀ {vs : List Val} {bs : List (List (Int × Int))}, booksOf vs = some bs → vs = bs.map dK
  | [], _, h => by cases h; rfl
  | v :: vs, _, h => by
    cases v with
    | dic kvs =>
      simp only [booksOf] at h
      cases e1 : bkOf kvs with
      | none => rw [e1] at h; cases h
      | some b =>
        cases e2 : booksOf vs with
        | none => rw [e1, e2] at h; cases h
        | some bs =>
          rw [e1, e2] at h
          cases h
          rw [bkOf_eq e1, booksOf_eq e2]
          rfl
    | _ => cases h
/-- the object: its books; at r the totals that were heard -/
abbrev gC (bs : List (List (Int × Int))) (r : Nat) : Cell := .ins "Guess" [("books", .lst (bs.map dK)), ("row", .ref r)]
structure GAt (st : Sto) (g r : Nat) (bs : List (List (Int × Int))) (row : List Int) : Prop where
  obj : st[g]? = some (gC bs r)
  row : st[r]? = some (.lst (row.map Val.int))
def gOf (st : Sto) (v : Val) : Option (List (List (Int × Int)) × Nat × List Int) := match insAt st "Guess" v with
  | some [(a, .lst ds), (b, .ref r)] => if a = "books" ∧ b = "row" then (match booksOf ds, (lstAt st r).bind intsOf with
    | some bs, some row => some (bs, r, row)
    | _, _ => none) else none
  | _ => none
theorem GAt.of {st : Sto} {g r : Nat} {bs : List (List (Int × Int))} {row : List Int} (h : GAt st g r bs row) : gOf st (.ref g) = some (bs, r, row) := by
  have h1 : insAt st "Guess" (.ref g) = some [(("books" : Str), Val.lst (bs.map dK)), (("row" : Str), Val.ref r)] := by
    unfold insAt
    dsimp only
    rw [h.obj]
    rfl
  unfold gOf
  rw [h1]
  dsimp only
  rw [if_pos ⟨rfl, rfl⟩, booksOf_dK]
  have h2 : lstAt st r = some (row.map Val.int) := by unfold lstAt; rw [h.row]
  simp [h2, Option.bind]
theorem gOf_eq {st : Sto} {v : Val} {bs : List (List (Int × Int))} {r : Nat} {row : List Int} (h : gOf st v = some (bs, r, row)) : ∃ g, v = .ref g ∧ GAt st g r bs row := by
  unfold gOf at h
  split at h
  · rename_i a ds b r' hi
    split at h
    · rename_i hab
      split at h
      · rename_i bs' row' h1 h2
        cases h
        obtain ⟨rfl, rfl⟩ := hab
        cases v with
        | ref g =>
          refine ⟨g, rfl, ?_, ?_⟩
          · unfold insAt at hi
            dsimp only at hi
            split at hi
            · rename_i c' fs hc
              split at hi
              · rename_i e
                cases hi
                subst e
                rw [hc, booksOf_eq h1]
              · cases hi
            · cases hi
          · cases hl : lstAt st r with
            | none => rw [hl] at h2; cases h2
            | some ws =>
              rw [hl] at h2
              have := intsOf_eq (show intsOf ws = some row from h2)
              rw [lstAt_eq hl, this]
        | _ => cases hi
      · cases h
    · cases h
  · cases h
/-- which can be: the places of books in which all totals are -/
def canFrom (ns : List Int) : Nat → List (List (Int × Int)) → List Int
  | _, [] => []
  | k, b :: bs => if (ns.all fun t => (getI b t).isSome) = true then (k : Int) :: canFrom ns (k + 1) bs else canFrom ns (k + 1) bs
abbrev canB (bs : List (List (Int × Int))) (ns : List Int) : List Int := canFrom ns 0 bs
/-- of a book all ways -/
def allB (b : List (Int × Int)) : Int := (b.map (·.2)).sum
/-- the books' ways are small, each key stands once -/
structure OkB (bs : List (List (Int × Int))) : Prop where
  nd : ∀ b ∈ bs, (b.map (·.1)).Nodup
  pos : ∀ b ∈ bs, ∀ p ∈ b, 0 ≤ p.2 ∧ p.2 ≤ 1000000
  all : ∀ b ∈ bs, 0 ≤ allB b ∧ allB b ≤ 1000000
def hereB (b : List (Int × Int)) (row : List Int) (h : Int) : Int := row.foldl (fun h t => h * (getI b t).getD 0) h
def othersB (n place : Nat) : Nat → List Int → Int → Int
  | _, [], h => h
  | k, m :: ms, h => othersB n place (k + 1) ms (if k ≠ place then h * m ^ n else h)
def weightB (bs : List (List (Int × Int))) (row : List Int) (place : Nat) (b : List (Int × Int)) : Int := othersB row.length place 0 (bs.map allB) (hereB b row 1)
def weightsFrom (bs : List (List (Int × Int))) (row : List Int) : Nat → List (List (Int × Int)) → List Int
  | _, [] => []
  | k, b :: l => weightB bs row k b :: weightsFrom bs row (k + 1) l
abbrev wB (bs : List (List (Int × Int))) (row : List Int) : List Int := weightsFrom bs row 0 bs
/-! what the methods tell -/
def F_Guess_can_be : FV := fun args st => match args with
  | [v, u] => match gOf st v, (readL u st).bind intsOf with
    | some (bs, _, _), some ns => .ok (.lst ((canB bs ns).map Val.int)) st
    | _, _ => .stuck
  | _ => .stuck
def F_Guess_left : FV := fun args st => match args with
  | [v] => match gOf st v with
    | some (bs, _, row) => .ok (.lst ((canB bs row).map Val.int)) st
    | none => .stuck
  | _ => .stuck
def F_Guess_heard : FV := fun args st => match args with
  | [v] => match gOf st v with
    | some (_, _, row) => .ok (.lst (row.map Val.int)) st
    | none => .stuck
  | _ => .stuck
def hearR (bs : List (List (Int × Int))) (r : Nat) (row : List Int) (st : Sto) : Val → Res Val
  | .int k => if 0 ≤ k ∧ k ≤ 120 then (if canB bs (row ++ [k]) = [] then .exc "Against" st else .ok (.int ((canB bs (row ++ [k])).length : Nat)) (st.set r (.lst ((row ++ [k]).map Val.int)))) else .exc "NoNumber" st
  | _ => .exc "NoNumber" st
def F_Guess_hear : FV := fun args st => match args with
  | [v, t] => match gOf st v with
    | some (bs, r, row) => if t.top = true ∧ row.length < 1000000 then hearR bs r row st t else .stuck
    | none => .stuck
  | _ => .stuck
open Classical in
noncomputable def F_Guess_weights : FV := fun args st => match args with
  | [v] => match gOf st v with
    | some (bs, _, row) => if OkB bs ∧ row.length < 1000000 ∧ bs.length < 1000000 then .ok (.lst ((wB bs row).map Val.int)) st else .stuck
    | none => .stuck
  | _ => .stuck
def shareR (bs : List (List (Int × Int))) (row : List Int) (st : Sto) : Val → Res Val
  | .int k => if 0 ≤ k ∧ k ≤ (bs.length : Int) - 1 then (match (wB bs row)[k.toNat]? with
    | some u => if 0 ≤ u ∧ 0 < (wB bs row).sum ∧ (wB bs row).sum < 2 ^ 2000 then .ok (vI (fracI u.toNat (wB bs row).sum.toNat)) st else .stuck
    | none => .stuck) else .exc "NoNumber" st
  | _ => .exc "NoNumber" st
open Classical in
noncomputable def F_Guess_share : FV := fun args st => match args with
  | [v, t] => match gOf st v with
    | some (bs, _, row) => if (OkB bs ∧ row.length < 1000000 ∧ bs.length < 1000000) ∧ t.top = true then shareR bs row st t else .stuck
    | none => .stuck
  | _ => .stuck
open Classical in
noncomputable def F_Guess_likely : FV := fun args st => match args with
  | [v] => match gOf st v with
    | some (bs, _, row) => if (OkB bs ∧ row.length < 1000000 ∧ bs.length < 1000000) ∧ bs ≠ [] then .ok (.int ((wB bs row).idxOf (maxI (wB bs row)) : Nat)) st else .stuck
    | none => .stuck
  | _ => .stuck
def F_Guess_undo : FV := fun args st => match args with
  | [v] => match gOf st v with
    | some (_, r, row) => (match row.getLast? with
      | some k => .ok (.int k) (st.set r (.lst (row.dropLast.map Val.int)))
      | none => .exc "Nothing" st)
    | none => .stuck
  | _ => .stuck
/-- choices read: dice, each; else why not -/
def dicesOf : List Val → Option (List (List (List Int)))
  | [] => some []
  | v :: vs => match diceOf v, dicesOf vs with
    | some d, some ds => some (d :: ds)
    | _, _ => none
def initR (g : Nat) (st : Sto) (v : Val) : Res Val := match tyOf v st with
  | some ty => if isTy ty .lst = true then (match readL v st with
      | some vs => if 1 ≤ vs.length ∧ vs.length ≤ 6 then (if (vs.all saneDice) = true then (match dicesOf vs with
          | some dss => if dss.Nodup then .ok .non (st.set g (gC (dss.map totB) st.length) ++ [.lst []]) else .exc "NoChoices" st
          | none => .exc "NoChoices" st) else .stuck) else .exc "NoChoices" st
      | none => .stuck) else .exc "NoChoices" st
  | none => .stuck
def F_Guess___init__ : FV := fun args st => match args with
  | [.ref g, v] => (match st[g]? with
    | some (.ins c []) => if c = "Guess" then initR g st v else .stuck
    | _ => .stuck)
  | _ => .stuck
end DL

/-! Guesses: how their programs are reckoned. -/
namespace DL
open PySem PySem.Spec PyProof.Rows L2
/-- F tells what B tells, store and all -/
theorem ref_at {F B : FV} (h : ∀ args st, ClS st → ClL st.length args → match F args st with
  | .ok v st1 => B args st = .ok v st1 ∧ st.length ≤ st1.length ∧ (∀ c ∈ st1, c ∈ st ∨ ClC st1.length c) ∧ ClV st1.length v
  | .exc c st1 => B args st = .exc c st1 ∧ st.length ≤ st1.length ∧ (∀ c ∈ st1, c ∈ st ∨ ClC st1.length c)
  | .stuck => True) : Refines F B := fun args st k1 k2 => by
  have := h args st k1 k2
  cases hf : F args st with
  | ok v st1 =>
    rw [hf] at this
    exact ⟨v, st1, this.1, this.2.1, ⟨[], by simp⟩, this.2.2.1, .inl ⟨rfl, this.2.2.2⟩⟩
  | exc c st1 =>
    rw [hf] at this
    exact ⟨st1, this.1, this.2.1, ⟨[], by simp⟩, this.2.2, .inl ⟨rfl, .non⟩⟩
  | stuck => trivial
theorem items_read {u : Val} {st : Sto} {vs : List Val} (h : readL u st = some vs) : ∃ g, itemsL u st = .ok ⟨vs, g⟩ st ∧ Guard st g := by
  cases u with
  | lst ws => cases h; exact ⟨none, rfl, trivial⟩
  | rol ws => cases h; exact ⟨none, rfl, trivial⟩
  | ref l =>
    have h1 : lstAt st l = some vs := h
    have h2 := lstAt_eq h1
    exact ⟨some (l, .lst vs), by simp only [itemsL, h2], h2⟩
  | _ => cases h
theorem fld_books {st : Sto} {g r : Nat} {bs : List (List (Int × Int))} {row : List Int} (h : GAt st g r bs row) {mo : ME} {ρ : Rho} (e : mo ρ st = .ok (.ref g) st) : mFld "Guess" "books" mo ρ st = .ok (.lst (bs.map dK)) st := by
  have h1 : insAt st "Guess" (.ref g) = some [(("books" : Str), Val.lst (bs.map dK)), (("row" : Str), Val.ref r)] := by
    unfold insAt
    dsimp only
    rw [h.obj]
    rfl
  have h2 : List.lookup ("books" : Str) [(("books" : Str), Val.lst (bs.map dK)), (("row" : Str), Val.ref r)] = some (Val.lst (bs.map dK)) := by
    rw [List.lookup_cons]
    have : (("books" : Str) == "books") = true := by decide +kernel
    rw [this]
  unfold mFld
  rw [e]
  simp only [Res.bind, h1, h2]
theorem fld_row {st : Sto} {g r : Nat} {bs : List (List (Int × Int))} {row : List Int} (h : GAt st g r bs row) {mo : ME} {ρ : Rho} (e : mo ρ st = .ok (.ref g) st) : mFld "Guess" "row" mo ρ st = .ok (.ref r) st := by
  have h1 : insAt st "Guess" (.ref g) = some [(("books" : Str), Val.lst (bs.map dK)), (("row" : Str), Val.ref r)] := by
    unfold insAt
    dsimp only
    rw [h.obj]
    rfl
  have h2 : List.lookup ("row" : Str) [(("books" : Str), Val.lst (bs.map dK)), (("row" : Str), Val.ref r)] = some (Val.ref r) := by
    rw [List.lookup_cons]
    have a1 : (("row" : Str) == "books") = false := by decide +kernel
    rw [a1]
    dsimp only
    rw [List.lookup_cons]
    have a2 : (("row" : Str) == "row") = true := by decide +kernel
    rw [a2]
  unfold mFld
  rw [e]
  simp only [Res.bind, h1, h2]
theorem inv_at {m : Str} {F : FV} {st : Sto} {g r : Nat} {bs : List (List (Int × Int))} {row : List Int} (h : GAt st g r bs row) {mo : ME} {ms : MA} {ρ : Rho} (e : mo ρ st = .ok (.ref g) st) (a1 : (m == ("books" : Str)) = false) (a2 : (m == ("row" : Str)) = false) :
    mInv "Guess" m F mo ms ρ st = (ms ρ st).bind fun vs st2 => F (.ref g :: vs) st2 := by
  have h1 : insAt st "Guess" (.ref g) = some [(("books" : Str), Val.lst (bs.map dK)), (("row" : Str), Val.ref r)] := by
    unfold insAt
    dsimp only
    rw [h.obj]
    rfl
  have h2 : List.lookup m [(("books" : Str), Val.lst (bs.map dK)), (("row" : Str), Val.ref r)] = none := by
    rw [List.lookup_cons, a1]
    dsimp only
    rw [List.lookup_cons, a2]
    rfl
  unfold mInv
  rw [e]
  simp only [Res.bind, h1, h2, if_true]
/-- a cell of ints rewritten -/
theorem cl_set {st : Sto} {r : Nat} {ns : List Int} : ∀ c ∈ st.set r (.lst (ns.map Val.int)), c ∈ st ∨ ClC (st.set r (.lst (ns.map Val.int))).length c := fun c hc => by
  rcases List.mem_or_eq_of_mem_set hc with h | h
  · exact .inl h
  · exact .inr (by rw [h]; exact cl_ints _)
theorem gat_lt {st : Sto} {g r : Nat} {bs : List (List (Int × Int))} {row : List Int} (h : GAt st g r bs row) : r < st.length := (List.getElem?_eq_some_iff.mp h.row).1
theorem gat_ne {st : Sto} {g r : Nat} {bs : List (List (Int × Int))} {row : List Int} (h : GAt st g r bs row) : g ≠ r := fun e => by
  have h1 := h.obj
  rw [e, h.row] at h1
  cases h1
/-- the totals rewritten -/
theorem GAt.put {st : Sto} {g r : Nat} {bs : List (List (Int × Int))} {row : List Int} (h : GAt st g r bs row) (row' : List Int) : GAt (st.set r (.lst (row'.map Val.int))) g r bs row' :=
  ⟨by rw [List.getElem?_set_ne (Ne.symm (gat_ne h))]; exact h.obj, List.getElem?_set_self (gat_lt h)⟩
theorem can_pos (ns : List Int) : ∀ (bs : List (List (Int × Int))) (k : Nat), ∀ i ∈ canFrom ns k bs, (k : Int) ≤ i
  | [], _, i, h => nomatch h
  | b :: bs, k, i, h => by
    unfold canFrom at h
    split at h
    · rcases List.mem_cons.mp h with rfl | h
      · exact Int.le_refl _
      · have := can_pos ns bs (k + 1) i h; omega
    · have := can_pos ns bs (k + 1) i h; omega
theorem GAt.app {st x : Sto} {g r : Nat} {bs : List (List (Int × Int))} {row : List Int} (h : GAt st g r bs row) : GAt (st ++ x) g r bs row :=
  ⟨by rw [List.getElem?_append_left (List.getElem?_eq_some_iff.mp h.obj).1]; exact h.obj, by rw [List.getElem?_append_left (gat_lt h)]; exact h.row⟩
/-- another cell rewritten -/
theorem GAt.else {st : Sto} {g r l : Nat} {c : Cell} {bs : List (List (Int × Int))} {row : List Int} (h : GAt st g r bs row) (h1 : l ≠ g) (h2 : l ≠ r) : GAt (st.set l c) g r bs row :=
  ⟨by rw [List.getElem?_set_ne h1]; exact h.obj, by rw [List.getElem?_set_ne h2]; exact h.row⟩
theorem loop_cons0 {t : Tg} {body : MS} {v : Val} {vs : List Val} {ρ ρ' ρ2 : Rho} {st st2 : Sto} (ha : t.asg v ρ = some ρ') (hb : body ρ' st = .next ρ2 st2) : loop t body none (v :: vs) ρ st = loop t body none vs ρ2 st2 := loop_cons (g := none) trivial ha hb
theorem loop_nil0 {t : Tg} {body : MS} {ρ : Rho} {st : Sto} : loop t body none [] ρ st = .next ρ st := loop_nil (g := none) trivial
end DL

/-! In lists of data; drawing while a list grows behind. -/
namespace DL
open PySem PySem.Spec PyProof.Rows L2
theorem any_eqv {v : Val} {d : PyData} (hv : v.nb = true) (h1 : v.data = some d) : ∀ (vs : List Val) (ds : List PyData), Val.nbs vs = true → Val.datas vs = some ds → (ds.any fun z => PyData.eqv z d) = decide (v ∈ vs)
  | [], _, _, h => by cases h; simp
  | u :: vs, _, hn, h => by
    simp only [Val.nbs, Bool.and_eq_true] at hn
    simp only [Val.datas] at h
    cases e1 : u.data with
    | none => rw [e1] at h; cases h
    | some e =>
      cases e2 : Val.datas vs with
      | none => rw [e1, e2] at h; cases h
      | some es =>
        rw [e1, e2] at h
        cases h
        rw [List.any_cons, any_eqv hv h1 vs es hn.2 e2, Bool.eq_iff_iff, Bool.or_eq_true, nb_eqv u v e d hn.1 hv e1 h1]
        simp only [decide_eq_true_eq, List.mem_cons]
        exact ⟨fun q => q.elim (fun e => .inl e.symm) .inr, fun q => q.elim (fun e => .inl e.symm) .inr⟩
theorem hasD_lst {v : Val} {vs : List Val} {st : Sto} (hv : v.nb = true) (hw : Val.nbs vs = true) (dv : v.dep ≤ 64) (dw : (Val.lst vs).dep ≤ 64) : hasD v (.lst vs) st = some (decide (v ∈ vs)) := by
  obtain ⟨d, h1, h2, h3⟩ := nb_data v hv
  obtain ⟨e, h4, h5, h6⟩ := nb_data (.lst vs) (by simpa [Val.nb] using hw)
  have h7 := h4
  simp only [Val.data] at h7
  cases hq : Val.datas vs with
  | none => rw [hq] at h7; cases h7
  | some ds =>
    rw [hq] at h7
    cases h7
    unfold hasD
    rw [top_nb hv, top_nb (v := .lst vs) (by simpa [Val.nb] using hw), h1, h4]
    dsimp only
    rw [if_pos ⟨by simp [SeqAt.shaped, h2, h3, dv], by simp only [SeqAt.shaped, h5, h6, Bool.true_and, decide_eq_true_eq]; exact dw⟩, any_eqv hv h1 vs ds hw hq]
theorem hasD_ref {v : Val} {vs : List Val} {st : Sto} {l : Nat} (h : st[l]? = some (.lst vs)) : hasD v (.ref l) st = hasD v (.lst vs) st := by
  unfold hasD
  rw [topData_ref h]
theorem nb_vD (ds : List (List Int)) : Val.nb (vD ds) = true ∧ Val.dep (vD ds) ≤ 2 := by
  have := nb_rows ds
  exact ⟨by simpa [Val.nb] using this.1, by simp [Val.dep]; omega⟩
theorem nbs_vD (dss : List (List (List Int))) : Val.nbs (dss.map vD) = true ∧ Val.deps (dss.map vD) ≤ 2 := by
  induction dss with
  | nil => exact ⟨rfl, by simp [Val.deps]⟩
  | cons ds dss ih => exact ⟨by simp only [List.map_cons, Val.nbs, (nb_vD ds).1, ih.1, Bool.and_self], by have := ih.2; have := (nb_vD ds).2; simp only [List.map_cons, Val.deps]; omega⟩
theorem vD_inj {a b : List (List Int)} (h : vD a = vD b) : a = b := by
  have : a.map vI = b.map vI := by injection h
  exact map_vI_inj.mp this
theorem niDF_dice {ds : List (List Int)} {dss : List (List (List Int))} {st : Sto} {l : Nat} (h : st[l]? = some (.lst (dss.map vD))) : niDF (vD ds) (.ref l) st = .ok (.bl (!decide (ds ∈ dss))) st := by
  unfold niDF
  rw [hasD_ref h, hasD_lst (nb_vD ds).1 (nbs_vD dss).1 (by have := (nb_vD ds).2; omega) (by have := (nbs_vD dss).2; simp [Val.dep]; omega)]
  dsimp only
  congr 3
  rw [decide_eq_decide]
  constructor
  · intro q
    obtain ⟨c, hc, e⟩ := List.mem_map.mp q
    rw [← vD_inj e]
    exact hc
  · exact fun q => List.mem_map_of_mem q
/-! ### drawing, something behind -/
theorem Town.app {st x : Sto} {l n : Nat} (h : Town st l n) : Town (st ++ x) l n := by
  obtain ⟨ws, h1, h2⟩ := h
  exact ⟨ws, by rw [List.getElem?_append_left (List.getElem?_eq_some_iff.mp h1).1]; exact h1, h2⟩
theorem Drawn.app {st x t : Sto} {l n m : Nat} (T : Town st l m) (h : Drawn l n (st ++ x) t) : ∃ s, t = s ++ x ∧ Drawn l n st s := by
  obtain ⟨ws, k, h1, h2, h3⟩ := h
  obtain ⟨ws', h4, _⟩ := T
  have hl := (List.getElem?_eq_some_iff.mp h4).1
  rw [List.getElem?_append_left hl] at h2
  refine ⟨st.set l (.lst (ws ++ List.replicate k (.int 0))), ?_, ws, k, h1, h2, rfl⟩
  rw [h3, List.set_append_left _ _ hl]
/-- a def whose new list is told as a value, what stands behind forgotten -/
def trimL (B : FV) : FV := fun args st => match B args st with
  | .ok (.ref l) st' => (match st'[l]? with
    | some (.lst vs) => if st.length ≤ l then .ok (.lst vs) (st'.take st.length) else .stuck
    | _ => .stuck)
  | _ => .stuck
open Classical in
theorem ref_trimL {ok : List Val → Sto → Prop} {B : FV} (h : ∀ args st, ClS st → ClL st.length args → ok args st → ∃ vs l n st1 g, B args st = .ok (.ref st.length) (st1 ++ .lst vs :: g) ∧ Drawn l n st st1 ∧ ClL st.length vs) : Refines (guardF ok (trimL B)) B := fun args st k1 k2 => by
  by_cases hk : ok args st
  · obtain ⟨vs, l, n, st1, g, e, d, c⟩ := h args st k1 k2 hk
    have hl := d.len
    have hx : (st1 ++ Cell.lst vs :: g)[st.length]? = some (.lst vs) := by rw [← hl]; simp
    have ht : (st1 ++ Cell.lst vs :: g).take st.length = st1 := by rw [← hl]; simp
    simp only [guardF_of hk, trimL, e, hx, Nat.le_refl, if_true, ht]
    exact ⟨_, _, rfl, by rw [hl]; exact Nat.le_refl _, ⟨_, rfl⟩, d.cl k1, .inr ⟨st.length, .lst vs, rfl, by rw [hl]; exact Nat.le_refl _, hx, rfl, rfl, by rw [hl]; exact c⟩⟩
  · simp only [guardF, if_neg hk]
theorem trimL_of {B : FV} {args : List Val} {st st1 g : Sto} {vs : List Val} (e : B args st = .ok (.ref st.length) (st1 ++ .lst vs :: g)) (hl : st1.length = st.length) : trimL B args st = .ok (.lst vs) st1 := by
  have hx : (st1 ++ Cell.lst vs :: g)[st.length]? = some (.lst vs) := by rw [← hl]; simp
  have ht : (st1 ++ Cell.lst vs :: g).take st.length = st1 := by rw [← hl]; simp
  simp only [trimL, e, hx, Nat.le_refl, if_true, ht]
end DL

/-! Guesses: weights, in whatever order; which can be. -/
namespace DL
open PySem PySem.Spec PyProof.Rows L2
def prI : List Int → Int
  | [] => 1
  | a :: l => a * prI l
theorem prI_perm {l m : List Int} (h : l.Perm m) : prI l = prI m := by
  induction h with
  | nil => rfl
  | cons a _ ih => simp only [prI, ih]
  | swap a b l => simp only [prI]; rw [← Int.mul_assoc, ← Int.mul_assoc, Int.mul_comm a b]
  | trans _ _ h1 h2 => exact h1.trans h2
theorem here_eq (b : List (Int × Int)) : ∀ (row : List Int) (h : Int), hereB b row h = h * prI (row.map fun t => (getI b t).getD 0)
  | [], h => by simp [hereB, prI]
  | t :: row, h => by
    have := here_eq b row (h * (getI b t).getD 0)
    unfold hereB at this ⊢
    rw [List.foldl_cons, this, List.map_cons, prI, Int.mul_assoc]
theorem here_perm (b : List (Int × Int)) {row row' : List Int} (p : row.Perm row') (h : Int) : hereB b row h = hereB b row' h := by
  rw [here_eq, here_eq, prI_perm (p.map _)]
theorem weights_perm (bs0 : List (List (Int × Int))) {row row' : List Int} (p : row.Perm row') : ∀ (l : List (List (Int × Int))) (k : Nat), weightsFrom bs0 row k l = weightsFrom bs0 row' k l
  | [], _ => rfl
  | b :: l, k => by
    rw [weightsFrom, weightsFrom, weights_perm bs0 p l]
    unfold weightB
    rw [here_perm b p, p.length_eq]
theorem wB_perm (bs : List (List (Int × Int))) {row row' : List Int} (p : row.Perm row') : wB bs row = wB bs row' := weights_perm bs p bs 0
theorem can_perm {ns ns' : List Int} (p : ns.Perm ns') : ∀ (bs : List (List (Int × Int))) (k : Nat), canFrom ns k bs = canFrom ns' k bs
  | [], _ => rfl
  | b :: bs, k => by
    have : (ns.all fun t => (getI b t).isSome) = ns'.all fun t => (getI b t).isSome := by
      rw [Bool.eq_iff_iff, List.all_eq_true, List.all_eq_true]
      exact ⟨fun h t ht => h t (p.mem_iff.mpr ht), fun h t ht => h t (p.mem_iff.mp ht)⟩
    rw [canFrom, canFrom, this, can_perm p bs]
/-! bounds -/
theorem here_bound {b : List (Int × Int)} (hb : ∀ t, 0 ≤ (getI b t).getD 0 ∧ (getI b t).getD 0 ≤ 1000000) : ∀ (row : List Int) (h : Int), 0 ≤ h → 0 ≤ hereB b row h ∧ hereB b row h ≤ h * 1000000 ^ row.length
  | [], h, h0 => by simp [hereB, h0]
  | t :: row, h, h0 => by
    obtain ⟨h1, h2⟩ := hb t
    obtain ⟨h3, h4⟩ := here_bound hb row (h * (getI b t).getD 0) (Int.mul_nonneg h0 h1)
    refine ⟨h3, Int.le_trans h4 ?_⟩
    rw [List.length_cons, Int.pow_succ, Int.mul_comm (1000000 ^ row.length) 1000000, ← Int.mul_assoc]
    exact Int.mul_le_mul_of_nonneg_right (Int.mul_le_mul_of_nonneg_left h2 h0) (Int.pow_nonneg (by decide))
theorem others_bound (n place : Nat) : ∀ (ms : List Int) (k : Nat) (h : Int), (∀ m ∈ ms, 0 ≤ m ∧ m ≤ 1000000) → 0 ≤ h → 0 ≤ othersB n place k ms h ∧ othersB n place k ms h ≤ h * (1000000 ^ n) ^ ms.length
  | [], k, h, _, h0 => by simp [othersB, h0]
  | m :: ms, k, h, hm, h0 => by
    obtain ⟨h1, h2⟩ := hm m List.mem_cons_self
    have hp : 0 ≤ m ^ n ∧ m ^ n ≤ 1000000 ^ n := by
      refine ⟨Int.pow_nonneg h1, ?_⟩
      induction n with
      | zero => simp
      | succ n ih =>
        rw [Int.pow_succ, Int.pow_succ]
        exact Int.mul_le_mul ih h2 h1 (Int.pow_nonneg (by decide))
    have h10 : (1 : Int) ≤ 1000000 ^ n := by
      have := Int.pow_pos (n := 1000000) (m := n) (by decide)
      omega
    have hs : 0 ≤ (if k ≠ place then h * m ^ n else h) ∧ (if k ≠ place then h * m ^ n else h) ≤ h * 1000000 ^ n := by
      split
      · exact ⟨Int.mul_nonneg h0 hp.1, Int.mul_le_mul_of_nonneg_left hp.2 h0⟩
      · refine ⟨h0, ?_⟩
        have := Int.mul_le_mul_of_nonneg_left h10 h0
        rwa [Int.mul_one] at this
    obtain ⟨h3, h4⟩ := others_bound n place ms (k + 1) _ (fun x hx => hm x (List.mem_cons_of_mem _ hx)) hs.1
    rw [othersB]
    refine ⟨h3, Int.le_trans h4 ?_⟩
    rw [List.length_cons, Int.pow_succ, Int.mul_comm ((1000000 ^ n) ^ ms.length) (1000000 ^ n), ← Int.mul_assoc]
    exact Int.mul_le_mul_of_nonneg_right hs.2 (Int.pow_nonneg (Int.pow_nonneg (by decide)))
theorem get_bound {b : List (Int × Int)} (h : ∀ p ∈ b, 0 ≤ p.2 ∧ p.2 ≤ 1000000) (t : Int) : 0 ≤ (getI b t).getD 0 ∧ (getI b t).getD 0 ≤ 1000000 := by
  cases hq : getI b t with
  | none => simp
  | some n =>
    unfold getI at hq
    cases hf : b.find? fun p => decide (p.1 = t) with
    | none => rw [hf] at hq; cases hq
    | some p =>
      rw [hf] at hq
      cases hq
      exact h p (List.mem_of_find?_eq_some hf)
theorem weight_bound {bs : List (List (Int × Int))} (ok : OkB bs) (row : List Int) (k : Nat) {b : List (Int × Int)} (hb : b ∈ bs) : 0 ≤ weightB bs row k b ∧ weightB bs row k b ≤ 1000000 ^ row.length * (1000000 ^ row.length) ^ bs.length := by
  have h1 := here_bound (get_bound (ok.pos b hb)) row 1 (by decide)
  have h2 := others_bound row.length k (bs.map allB) 0 (hereB b row 1) (fun m hm => by
    obtain ⟨c, hc, rfl⟩ := List.mem_map.mp hm
    exact ok.all c hc) h1.1
  rw [List.length_map] at h2
  rw [Int.one_mul] at h1
  exact ⟨h2.1, Int.le_trans h2.2 (Int.mul_le_mul_of_nonneg_right h1.2 (Int.pow_nonneg (Int.pow_nonneg (by decide))))⟩
theorem weights_mem (bs0 : List (List (Int × Int))) (row : List Int) : ∀ (l : List (List (Int × Int))) (k : Nat), ∀ u ∈ weightsFrom bs0 row k l, ∃ i b, b ∈ l ∧ u = weightB bs0 row i b
  | [], _, u, h => nomatch h
  | b :: l, k, u, h => by
    rw [weightsFrom] at h
    rcases List.mem_cons.mp h with rfl | h
    · exact ⟨k, b, List.mem_cons_self, rfl⟩
    · obtain ⟨i, c, hc, e⟩ := weights_mem bs0 row l (k + 1) u h
      exact ⟨i, c, List.mem_cons_of_mem _ hc, e⟩
theorem weights_len (bs0 : List (List (Int × Int))) (row : List Int) : ∀ (l : List (List (Int × Int))) (k : Nat), (weightsFrom bs0 row k l).length = l.length
  | [], _ => rfl
  | b :: l, k => by rw [weightsFrom, List.length_cons, List.length_cons, weights_len bs0 row l]
theorem weights_at (bs0 : List (List (Int × Int))) (row : List Int) : ∀ (l : List (List (Int × Int))) (k i : Nat) (b : List (Int × Int)), l[i]? = some b → (weightsFrom bs0 row k l)[i]? = some (weightB bs0 row (k + i) b)
  | [], _, _, _, h => by simp at h
  | c :: l, k, 0, b, h => by simp at h; subst h; rfl
  | c :: l, k, i + 1, b, h => by
    rw [weightsFrom, List.getElem?_cons_succ, weights_at bs0 row l (k + 1) i b (by simpa using h)]
    congr 2
    omega
theorem sum_bound : ∀ (l : List Int) (m : Int), 0 ≤ m → (∀ u ∈ l, 0 ≤ u ∧ u ≤ m) → 0 ≤ l.sum ∧ l.sum ≤ l.length * m ∧ ∀ u ∈ l, u ≤ l.sum
  | [], m, _, _ => ⟨by simp, by simp, fun u h => nomatch h⟩
  | a :: l, m, hm, h => by
    obtain ⟨h1, h2, h3⟩ := sum_bound l m hm fun u hu => h u (List.mem_cons_of_mem _ hu)
    obtain ⟨h4, h5⟩ := h a List.mem_cons_self
    have e : ((l.length + 1 : Nat) : Int) * m = l.length * m + m := by rw [Int.natCast_add, Int.add_mul]; simp
    refine ⟨by simp only [List.sum_cons]; omega, by simp only [List.sum_cons, List.length_cons, e]; omega, fun u hu => ?_⟩
    simp only [List.sum_cons]
    rcases List.mem_cons.mp hu with rfl | hu
    · omega
    · have := h3 u hu; omega
/-- what can be told of a guess: totals of which shares can be told -/
structure Told (bs : List (List (Int × Int))) (row : List Int) : Prop where
  ok : OkB bs
  rowN : row.length < 1000000
  bsN : bs.length < 1000000
  ne : bs ≠ []
  nn : ∀ u ∈ wB bs row, 0 ≤ u
  pos : 0 < (wB bs row).sum
  big : (wB bs row).sum < 2 ^ 2000
theorem ipow_le {M : Nat} (hM : 0 < M) {m n : Nat} (h : m ≤ n) : (M : Int) ^ m ≤ (M : Int) ^ n := by
  have := Int.ofNat_le.mpr (Nat.pow_le_pow_right hM h)
  rwa [Int.natCast_pow, Int.natCast_pow] at this
/-- where few totals all are of one of the books, and no book is empty -/
theorem told_of {bs : List (List (Int × Int))} {row : List Int} (ok : OkB bs) (h6 : bs.length ≤ 6) (h8 : row.length ≤ 8) (hall : ∀ b ∈ bs, 0 < allB b) {b : List (Int × Int)} (hb : b ∈ bs) (hrow : ∀ t ∈ row, 0 < (getI b t).getD 0) : Told bs row := by
  have bound : ∀ u ∈ wB bs row, 0 ≤ u ∧ u ≤ 1000000 ^ 8 * (1000000 ^ 8) ^ 6 := fun u hu => by
    obtain ⟨i, c, hc, rfl⟩ := weights_mem bs row bs 0 u hu
    obtain ⟨h1, h2⟩ := weight_bound ok row i hc
    refine ⟨h1, Int.le_trans h2 ?_⟩
    have p1 : (1000000 : Int) ^ row.length ≤ 1000000 ^ 8 := ipow_le (M := 1000000) (by decide) h8
    have p2 : ((1000000 : Int) ^ row.length) ^ bs.length ≤ (1000000 ^ 8) ^ 6 := by
      rw [← Int.pow_mul, ← Int.pow_mul]
      exact ipow_le (M := 1000000) (by decide) (Nat.mul_le_mul h8 h6)
    exact Int.mul_le_mul p1 p2 (Int.pow_nonneg (Int.pow_nonneg (by decide))) (Int.pow_nonneg (by decide))
  obtain ⟨s1, s2, s3⟩ := sum_bound (wB bs row) _ (by decide +kernel) bound
  have hl : (wB bs row).length = bs.length := weights_len bs row bs 0
  obtain ⟨i, hi, e⟩ := List.mem_iff_getElem.mp hb
  have hat := weights_at bs row bs 0 i b (by rw [List.getElem?_eq_getElem hi, e])
  rw [Nat.zero_add] at hat
  have hw : weightB bs row i b ∈ wB bs row := List.mem_of_getElem? hat
  have hpos : 0 < weightB bs row i b := by
    have a1 : 0 < hereB b row 1 := by
      rw [here_eq, Int.one_mul]
      have gen : ∀ l : List Int, (∀ x ∈ l, 0 < x) → 0 < prI l := by
        intro l
        induction l with
        | nil => intro _; decide
        | cons x l ih =>
          intro hx
          exact Int.mul_pos (hx x List.mem_cons_self) (ih fun y hy => hx y (List.mem_cons_of_mem _ hy))
      exact gen _ fun x hx => by
        obtain ⟨t, ht, rfl⟩ := List.mem_map.mp hx
        exact hrow t ht
    have gen : ∀ (ms : List Int) (k : Nat) (h : Int), (∀ m ∈ ms, 0 < m) → 0 < h → 0 < othersB row.length i k ms h := by
      intro ms
      induction ms with
      | nil => intro k h _ h0; exact h0
      | cons m ms ih =>
        intro k h hm h0
        rw [othersB]
        refine ih _ _ (fun x hx => hm x (List.mem_cons_of_mem _ hx)) ?_
        split
        · exact Int.mul_pos h0 (Int.pow_pos (hm m List.mem_cons_self))
        · exact h0
    exact gen _ _ _ (fun m hm => by
      obtain ⟨c, hc, rfl⟩ := List.mem_map.mp hm
      exact hall c hc) a1
  have hge := s3 _ hw
  refine ⟨ok, by omega, by omega, (fun e => by rw [e] at hb; cases hb), fun u hu => (bound u hu).1, by omega, ?_⟩
  have h7 : ((wB bs row).length : Int) * (1000000 ^ 8 * (1000000 ^ 8) ^ 6) ≤ 6 * (1000000 ^ 8 * (1000000 ^ 8) ^ 6) := Int.mul_le_mul_of_nonneg_right (by omega) (by decide +kernel)
  have h9 : (6 : Int) * (1000000 ^ 8 * (1000000 ^ 8) ^ 6) < 2 ^ 2000 := by decide +kernel
  exact Int.lt_of_le_of_lt (Int.le_trans s2 h7) h9
/-! the books of dice -/
theorem okB_dice {dss : List (List (List Int))} (h : ∀ ds ∈ dss, diceN ds) : OkB (dss.map totB) := by
  have key : ∀ ds, diceN ds → ((totB ds).map (·.1)).Nodup ∧ (∀ p ∈ totB ds, p.2 = ((totS ds).count p.1 : Int)) ∧ allB (totB ds) = (totS ds).length := fun ds hd => by
    have hb := bk_tot ds
    refine ⟨hb.nd, fun p hp => ?_, ?_⟩
    · have q := nd_get hb.nd p hp
      rw [hb.get] at q
      by_cases z : (totS ds).count p.1 = 0
      · rw [if_pos z] at q; cases q
      · rw [if_neg z] at q
        exact (Option.some.inj q).symm
    · unfold allB
      rw [← perm_sum ((sortP_perm (totB ds)).map fun p => p.2), sumP_n hb]
  refine ⟨fun b hb => ?_, fun b hb p hp => ?_, fun b hb => ?_⟩
  · obtain ⟨ds, hm, rfl⟩ := List.mem_map.mp hb
    exact (key ds (h ds hm)).1
  · obtain ⟨ds, hm, rfl⟩ := List.mem_map.mp hb
    have h1 := (key ds (h ds hm)).2.1 p hp
    have h2 := totS_pos (h ds hm)
    have h3 := List.count_le_length (a := p.1) (l := totS ds)
    omega
  · obtain ⟨ds, hm, rfl⟩ := List.mem_map.mp hb
    have h1 := (key ds (h ds hm)).2.2
    have h2 := totS_pos (h ds hm)
    omega
theorem all_dice {ds : List (List Int)} (h : diceN ds) : allB (totB ds) = (totS ds).length := by
  unfold allB
  rw [← perm_sum ((sortP_perm (totB ds)).map fun p => p.2), sumP_n (bk_tot ds)]
theorem get_dice (ds : List (List Int)) (t : Int) : (getI (totB ds) t).getD 0 = ((totS ds).count t : Int) ∧ (getI (totB ds) t).isSome = decide (t ∈ totS ds) := by
  rw [(bk_tot ds).get]
  by_cases z : (totS ds).count t = 0
  · rw [if_pos z]
    have : t ∉ totS ds := List.count_eq_zero.mp z
    simp [z, this]
  · rw [if_neg z]
    have : t ∈ totS ds := by
      rcases Classical.em (t ∈ totS ds) with m | m
      · exact m
      · exact absurd (List.count_eq_zero.mpr m) z
    simp [this]
/-- which of the choices come to all of some totals -/
theorem can_dice (ns : List Int) : ∀ (dss : List (List (List Int))) (k : Nat), ∀ (i : Nat) (ds : List (List Int)), dss[i]? = some ds → (((k + i : Nat) : Int) ∈ canFrom ns k (dss.map totB) ↔ ∀ t ∈ ns, t ∈ totS ds)
  | [], _, _, _, h => by simp at h
  | c :: dss, k, 0, ds, h => by
    simp at h
    subst h
    have hno : ((k + 0 : Nat) : Int) ∉ canFrom ns (k + 1) (dss.map totB) := fun hm => by
      have := can_pos ns _ _ _ hm
      omega
    have e : (ns.all fun t => (getI (totB c) t).isSome) = true ↔ ∀ t ∈ ns, t ∈ totS c := by
      rw [List.all_eq_true]
      simp only [(get_dice c _).2, decide_eq_true_eq]
    rw [List.map_cons, canFrom]
    by_cases hc : (ns.all fun t => (getI (totB c) t).isSome) = true
    · rw [if_pos hc]
      simp only [Nat.add_zero, List.mem_cons_self, true_iff]
      exact e.mp hc
    · rw [if_neg hc]
      exact ⟨fun hm => absurd hm hno, fun q => absurd (e.mpr q) hc⟩
  | c :: dss, k, i + 1, ds, h => by
    have ih := can_dice ns dss (k + 1) i ds (by simpa using h)
    have e1 : k + 1 + i = k + (i + 1) := by omega
    rw [e1] at ih
    rw [← ih, List.map_cons, canFrom]
    split
    · rw [List.mem_cons]
      constructor
      · rintro (q | q)
        · omega
        · exact q
      · exact .inr
    · exact Iff.rfl
theorem can_ne {dss : List (List (List Int))} {ds : List (List Int)} {ns : List Int} (hm : ds ∈ dss) (h : ∀ t ∈ ns, t ∈ totS ds) : canB (dss.map totB) ns ≠ [] := by
  obtain ⟨i, hi, e⟩ := List.mem_iff_getElem.mp hm
  have := (can_dice ns dss 0 i ds (by rw [List.getElem?_eq_getElem hi, e])).mpr h
  intro q
  unfold canB at q
  rw [q] at this
  cases this
theorem told_dice {dss : List (List (List Int))} {row : List Int} (h : ∀ ds ∈ dss, diceN ds) (h6 : dss.length ≤ 6) (h8 : row.length ≤ 8) {ds : List (List Int)} (hm : ds ∈ dss) (hr : ∀ t ∈ row, t ∈ totS ds) : Told (dss.map totB) row :=
  told_of (b := totB ds) (okB_dice h) (by simpa using h6) h8 (fun b hb => by
    obtain ⟨c, hc, rfl⟩ := List.mem_map.mp hb
    rw [all_dice (h c hc)]
    have := totS_pos (h c hc)
    omega) (List.mem_map_of_mem hm) fun t ht => by
    rw [(get_dice ds t).1]
    have := List.count_pos_iff.mpr (hr t ht)
    omega
end DL

/-! Weights by all ways of the others; great products. -/
namespace DL
open PySem PySem.Spec PyProof.Rows L2
def exceptP (place : Nat) : Nat → List Int → Int
  | _, [] => 1
  | k, m :: ms => (if k ≠ place then m else 1) * exceptP place (k + 1) ms
theorem others_eq (n place : Nat) : ∀ (ms : List Int) (k : Nat) (h : Int), othersB n place k ms h = h * exceptP place k ms ^ n
  | [], k, h => by rw [othersB, exceptP, Int.one_pow, Int.mul_one]
  | m :: ms, k, h => by
    rw [othersB, others_eq n place ms, exceptP]
    by_cases e : k ≠ place
    · rw [if_pos e, if_pos e, Int.mul_pow, Int.mul_assoc]
    · rw [if_neg e, if_neg e, Int.one_mul]
theorem except_all (place : Nat) : ∀ (ms : List Int) (k : Nat), place < k → exceptP place k ms = prI ms
  | [], _, _ => rfl
  | m :: ms, k, h => by
    rw [exceptP, prI, except_all place ms (k + 1) (by omega), if_pos (by omega)]
theorem except_whole : ∀ (ms : List Int) (k i : Nat) (m : Int), ms[i]? = some m → prI ms = m * exceptP (k + i) k ms
  | [], _, _, _, h => by simp at h
  | c :: ms, k, 0, m, h => by
    simp at h
    subst h
    rw [prI, exceptP, except_all _ ms (k + 1) (by omega), if_neg (by omega), Int.one_mul]
  | c :: ms, k, i + 1, m, h => by
    have ih := except_whole ms (k + 1) i m (by simpa using h)
    rw [prI, exceptP, ih, if_pos (by omega), show k + 1 + i = k + (i + 1) by omega]
    rw [← Int.mul_assoc, ← Int.mul_assoc, Int.mul_comm c m]
theorem except_pos (place : Nat) : ∀ (ms : List Int) (k : Nat), (∀ m ∈ ms, 0 < m) → 0 < exceptP place k ms
  | [], _, _ => by rw [exceptP]; decide
  | m :: ms, k, h => by
    rw [exceptP]
    refine Int.mul_pos ?_ (except_pos place ms (k + 1) fun x hx => h x (List.mem_cons_of_mem _ hx))
    split
    · exact h m List.mem_cons_self
    · decide
/-- ways of a total times all ways of the others, total by total -/
def hereQ (T : List Int) (q : Int) (row : List Int) (h : Int) : Int := row.foldl (fun h t => h * (T.count t : Int) * q) h
theorem hereQ_eq (T : List Int) (q : Int) : ∀ (row : List Int) (h : Int), hereQ T q row h = h * prI (row.map fun t => (T.count t : Int)) * q ^ row.length
  | [], h => by simp [hereQ, prI]
  | t :: row, h => by
    have := hereQ_eq T q row (h * (T.count t : Int) * q)
    unfold hereQ at this ⊢
    rw [List.foldl_cons, this, List.map_cons, prI, List.length_cons, Int.pow_succ]
    grind
theorem weight_dice {dss : List (List (List Int))} (row : List Int) (i : Nat) (ds : List (List Int)) : weightB (dss.map totB) row i (totB ds) = hereQ (totS ds) (exceptP i 0 ((dss.map totB).map allB)) row 1 := by
  unfold weightB
  rw [others_eq, here_eq, hereQ_eq]
  have : (row.map fun t => (getI (totB ds) t).getD 0) = row.map fun t => ((totS ds).count t : Int) := List.map_congr_left fun t _ => (get_dice ds t).1
  rw [this]
/-! bounds by powers of two -/
def Bd (x : Int) (n : Nat) : Prop := 0 ≤ x ∧ x < 2 ^ n
theorem Bd.mul {x y : Int} {a b : Nat} (h1 : Bd x a) (h2 : Bd y b) : Bd (x * y) (a + b) := by
  refine ⟨Int.mul_nonneg h1.1 h2.1, ?_⟩
  rw [Int.pow_add]
  by_cases hy : y = 0
  · subst hy
    rw [Int.mul_zero]
    exact Int.mul_pos (Int.pow_pos (by decide)) (Int.pow_pos (by decide))
  · have hy0 : 0 < y := by have := h2.1; omega
    exact Int.lt_of_lt_of_le (Int.mul_lt_mul_of_pos_right h1.2 hy0) (Int.mul_le_mul_of_nonneg_left (Int.le_of_lt h2.2) (Int.pow_nonneg (by decide)))
theorem Bd.mono {x : Int} {a b : Nat} (h : Bd x a) (hab : a ≤ b) : Bd x b := ⟨h.1, Int.lt_of_lt_of_le h.2 (ipow_le (M := 2) (by decide) hab)⟩
theorem Bd.abs {x : Int} {n : Nat} (h : Bd x n) : x.natAbs < 2 ^ n := by
  have h1 := h.1
  have h2 := h.2
  have e : ((x.natAbs : Nat) : Int) = x := Int.natAbs_of_nonneg h1
  have : ((x.natAbs : Nat) : Int) < ((2 ^ n : Nat) : Int) := by rw [e, Int.natCast_pow]; exact h2
  exact Int.ofNat_lt.mp this
theorem mulW_ok {x y : Int} {a b : Nat} (h1 : Bd x a) (h2 : Bd y b) (ha : 0 < a) (hb : 0 < b) (hab : a + b ≤ 1000000) (st : Sto) : mulWF (.int x) (.int y) st = .ok (.int (x * y)) st := by
  unfold mulWF
  dsimp only
  rw [if_pos (wide_mul h1.abs h2.abs ha hb hab)]
end DL

/-! Dice as texts: what is written, what is read. -/
namespace DL
open PySem PySem.Spec PyProof.Rows L2
def faceC (f : Int) : List Nat := TL.numL f.toNat
def dieC (d : List Int) : List Nat := TL.joinL [44] (d.map faceC)
def diceC (ds : List (List Int)) : List Nat := TL.joinL [32] (ds.map dieC)
def figs (cs : List Nat) : Bool := cs.all fun c => decide (48 ≤ c) && decide (c ≤ 57)
def numV (cs : List Nat) : Val := if (1 ≤ cs.length ∧ cs.length ≤ 2) ∧ figs cs = true then .int ((NumText.digitsVal cs : Nat) : Int) else .non
def wordV (cs : List Nat) : Val := .tup ((TL.spl [44] 0 [] cs).map numV)
def textV (cs : List Nat) : Val := .tup ((TL.spl [32] 0 [] cs).map wordV)
def readC (cs : List Nat) : Option (List (List Int)) := match diceOf (textV cs) with
  | some ds => if diceC ds = cs then some ds else none
  | none => none
theorem num_face {f : Int} (h0 : 0 ≤ f) (h1 : f ≤ 30) : numV (faceC f) = .int f := by
  have l2 : (faceC f).length ≤ 2 := TL.numL_len (k := 2) (by decide) (by show f.toNat < 10 ^ 2; omega)
  have l1 : 1 ≤ (faceC f).length := List.length_pos_iff.mpr (TL.numL_ne _)
  have hd : figs (faceC f) = true := by
    unfold figs
    rw [List.all_eq_true]
    intro c hc
    have := TL.numL_digits f.toNat c hc
    simp [this.1, this.2]
  unfold numV
  rw [if_pos ⟨⟨l1, l2⟩, hd⟩]
  show Val.int ((NumText.digitsVal (TL.numL f.toNat) : Nat) : Int) = _
  rw [TL.numL_val]
  congr 1
  omega
theorem face_len {f : Int} (h0 : 0 ≤ f) (h1 : f ≤ 30) : (faceC f).length ≤ 2 := TL.numL_len (k := 2) (by decide) (by show f.toNat < 10 ^ 2; omega)
theorem join_mem {S : List Nat} {c : Nat} : ∀ {ps : List (List Nat)}, c ∈ TL.joinL S ps → c ∈ S ∨ ∃ p ∈ ps, c ∈ p
  | [], h => nomatch h
  | [p], h => .inr ⟨p, List.mem_singleton.mpr rfl, h⟩
  | p :: q :: r, h => by
    rw [TL.joinL, List.mem_append, List.mem_append] at h
    rcases h with h | h | h
    · exact .inr ⟨p, List.mem_cons_self, h⟩
    · exact .inl h
    · rcases join_mem h with h | ⟨x, hx, h⟩
      · exact .inl h
      · exact .inr ⟨x, List.mem_cons_of_mem _ hx, h⟩
theorem spl_die {d : List Int} (hd : d ≠ []) : TL.spl [44] 0 [] (dieC d) = d.map faceC := by
  refine TL.spl_join (by simpa using hd) fun p hp => ?_
  obtain ⟨f, _, rfl⟩ := List.mem_map.mp hp
  exact TL.numL_free (.inl (by decide))
theorem spl_dice {ds : List (List Int)} (hd : ds ≠ []) : TL.spl [32] 0 [] (diceC ds) = ds.map dieC := by
  refine TL.spl_join (by simpa using hd) fun p hp h => ?_
  obtain ⟨d, _, rfl⟩ := List.mem_map.mp hp
  rcases join_mem h with h | ⟨q, hq, h⟩
  · simp at h
  · obtain ⟨f, _, rfl⟩ := List.mem_map.mp hq
    exact TL.numL_free (.inl (by decide)) h
theorem text_dice {ds : List (List Int)} (h : diceN ds) : textV (diceC ds) = vD ds := by
  have hne : ds ≠ [] := by have := h.1; rintro rfl; simp at this
  unfold textV vD
  rw [spl_dice hne, List.map_map]
  congr 1
  refine List.map_congr_left fun d hd => ?_
  have hdie := dieN_iff.mp (h.2.2 d hd)
  have hdn : d ≠ [] := by rintro rfl; simp at hdie
  show wordV (dieC d) = vI d
  unfold wordV vI
  rw [spl_die hdn, List.map_map]
  congr 1
  refine List.map_congr_left fun f hf => ?_
  have := hdie.2.2.1 f hf
  exact num_face this.1 this.2
theorem read_back {ds : List (List Int)} (h : diceN ds) : readC (diceC ds) = some ds := by
  unfold readC
  rw [text_dice h, diceOf_vD h]
  dsimp only
  rw [if_pos rfl]
theorem read_some {cs : List Nat} {ds : List (List Int)} (h : readC cs = some ds) : diceN ds ∧ cs = diceC ds := by
  unfold readC at h
  cases hd : diceOf (textV cs) with
  | none => rw [hd] at h; cases h
  | some es =>
    rw [hd] at h
    dsimp only at h
    split at h
    · rename_i e
      cases h
      exact ⟨(diceOf_eq hd).2, e.symm⟩
    · cases h
/-- a word that writes a die -/
def goodW (w : List Nat) : Prop := (TL.spl [44] 0 [] w).length ≤ 8 ∧ (∀ p ∈ TL.spl [44] 0 [] w, ∃ f : Nat, f ≤ 30 ∧ p = TL.numL f) ∧ ((TL.spl [44] 0 [] w).map NumText.digitsVal).Pairwise (· ≤ ·)
theorem join_spl {c : Nat} (hc : c < 256) (a : List Nat) : TL.joinL [c] (TL.spl [c] 0 [] a) = a := by
  have h1 := SX.split_S (a := a) (b := [c]) (by simp) (by simp [hc])
  have h2 := PySem.StrLaws.join_split (SX.S a) (SX.S [c])
  rw [h1, ← TL.join_eq, SX.join_S] at h2
  exact SX.S_inj h2
theorem spl_ne (s : List Nat) : ∀ (l acc : List Nat) (k : Nat), TL.spl s k acc l ≠ []
  | [], acc, k => by rw [TL.spl_nil]; simp
  | c :: r, acc, 0 => by
    unfold TL.spl
    split
    · simp
    · exact spl_ne s r _ 0
  | c :: r, acc, k + 1 => by
    unfold TL.spl
    exact spl_ne s r acc k
theorem good_word {w : List Nat} (h : goodW w) : ∃ d, dieN d = true ∧ w = dieC d ∧ wordV w = vI d := by
  obtain ⟨h1, h2, h3⟩ := h
  have key : ∀ l : List (List Nat), (∀ p ∈ l, ∃ f : Nat, f ≤ 30 ∧ p = TL.numL f) → ∃ ns : List Int, l = ns.map faceC ∧ (∀ n ∈ ns, 0 ≤ n ∧ n ≤ 30) ∧ ns = l.map fun p => ((NumText.digitsVal p : Nat) : Int) := by
    intro l
    induction l with
    | nil => intro _; exact ⟨[], rfl, (fun _ h => nomatch h), rfl⟩
    | cons p l ih =>
      intro hl
      obtain ⟨f, hf, rfl⟩ := hl p List.mem_cons_self
      obtain ⟨ns, e1, e2, e3⟩ := ih fun q hq => hl q (List.mem_cons_of_mem _ hq)
      refine ⟨(f : Int) :: ns, ?_, fun n hn => ?_, ?_⟩
      · rw [List.map_cons, e1]
        rfl
      · rcases List.mem_cons.mp hn with rfl | hn
        · omega
        · exact e2 n hn
      · rw [List.map_cons, TL.numL_val, e3]
  obtain ⟨ns, e1, e2, e3⟩ := key _ h2
  have hne := spl_ne [44] w [] 0
  have hns : ns ≠ [] := by rintro rfl; exact hne e1
  have hw : w = dieC ns := by
    have := join_spl (c := 44) (by decide) w
    rw [e1] at this
    exact this.symm
  have hdie : dieN ns = true := by
    refine dieN_iff.mpr ⟨List.length_pos_iff.mpr hns, by have := congrArg List.length e1; rw [List.length_map] at this; omega, e2, ?_⟩
    rw [e3]
    have : (TL.spl [44] 0 [] w).map (fun p => ((NumText.digitsVal p : Nat) : Int)) = ((TL.spl [44] 0 [] w).map NumText.digitsVal).map fun n => ((n : Nat) : Int) := by rw [List.map_map]; rfl
    rw [this, List.pairwise_map]
    exact h3.imp fun h => by omega
  refine ⟨ns, hdie, hw, ?_⟩
  unfold wordV vI
  rw [e1, List.map_map]
  congr 1
  refine List.map_congr_left fun f hf => num_face (e2 f hf).1 (e2 f hf).2
theorem read_iff (cs : List Nat) : (readC cs).isSome = true ↔ (TL.spl [32] 0 [] cs).length ≤ 4 ∧ ∀ w ∈ TL.spl [32] 0 [] cs, goodW w := by
  constructor
  · intro h
    cases hr : readC cs with
    | none => rw [hr] at h; cases h
    | some ds =>
      obtain ⟨hn, rfl⟩ := read_some hr
      have hne : ds ≠ [] := by have := hn.1; rintro rfl; simp at this
      rw [spl_dice hne]
      refine ⟨by rw [List.length_map]; exact hn.2.1, fun w hw => ?_⟩
      obtain ⟨d, hd, rfl⟩ := List.mem_map.mp hw
      have hdie := dieN_iff.mp (hn.2.2 d hd)
      have hdn : d ≠ [] := by rintro rfl; simp at hdie
      unfold goodW
      rw [spl_die hdn]
      refine ⟨by rw [List.length_map]; exact hdie.2.1, fun p hp => ?_, ?_⟩
      · obtain ⟨f, hf, rfl⟩ := List.mem_map.mp hp
        have := hdie.2.2.1 f hf
        exact ⟨f.toNat, by omega, rfl⟩
      · rw [List.map_map, List.pairwise_map]
        refine hdie.2.2.2.imp_of_mem fun {a b} ha hb hab => ?_
        show NumText.digitsVal (TL.numL a.toNat) ≤ NumText.digitsVal (TL.numL b.toNat)
        rw [TL.numL_val, TL.numL_val]
        omega
  · rintro ⟨h4, hg⟩
    have key : ∀ l : List (List Nat), (∀ w ∈ l, goodW w) → ∃ ds : List (List Int), (∀ d ∈ ds, dieN d = true) ∧ l = ds.map dieC ∧ l.map wordV = ds.map vI := by
      intro l
      induction l with
      | nil => intro _; exact ⟨[], (fun _ h => nomatch h), rfl, rfl⟩
      | cons w l ih =>
        intro hl
        obtain ⟨d, a1, a2, a3⟩ := good_word (hl w List.mem_cons_self)
        obtain ⟨ds, b1, b2, b3⟩ := ih fun q hq => hl q (List.mem_cons_of_mem _ hq)
        refine ⟨d :: ds, fun x hx => ?_, by rw [List.map_cons, ← a2, ← b2], by rw [List.map_cons, List.map_cons, a3, b3]⟩
        rcases List.mem_cons.mp hx with rfl | hx
        · exact a1
        · exact b1 x hx
    obtain ⟨ds, e1, e2, e3⟩ := key _ hg
    have hne := spl_ne [32] cs [] 0
    have hds : ds ≠ [] := by rintro rfl; exact hne e2
    have hn : diceN ds := ⟨List.length_pos_iff.mpr hds, by rw [e2, List.length_map] at h4; exact h4, e1⟩
    have hcs : diceC ds = cs := by
      have := join_spl (c := 32) (by decide) cs
      rw [e2] at this
      exact this
    rw [← hcs, read_back hn]
    rfl
theorem mJoin_ap {mo me : ME} {ρ : Rho} {st st1 st2 : Sto} {a : Str} {w : Val} {ys : List Str} (h1 : mo ρ st = .ok (.str a) st1) (h2 : me ρ st1 = .ok w st2) (h3 : (seqOf w st2).bind strsOf = some ys) (hz : (ys.map (·.length)).sum + ys.length * a.length ≤ 16777216) : mJoin mo me ρ st = .ok (.str (Txt.join a ys)) st2 := by
  unfold mJoin
  simp only [h1, Res.bind, h2, h3]
  rw [if_pos hz]
/-! what the defs tell -/
def P_number : List Val → Out
  | [.str x] => if x.length ≤ 1000000 then .val (numV x.cps.toList) else .no
  | _ => .no
abbrev F_number : FV := pureF P_number
def P_text_of : List Val → Out
  | [v] => match diceOf v with
    | some ds => .val (.str (SX.S (diceC ds)))
    | none => .no
  | _ => .no
abbrev F_text_of : FV := pureF P_text_of
def P_shown : List Val → Out
  | [v] => if saneDice v = true then (match diceOf v with
    | none => .err "NoDice"
    | some ds => .val (.str (SX.S (diceC ds)))) else .no
  | _ => .no
abbrev F_shown : FV := pureF P_shown
def P_read : List Val → Out
  | [.str x] => if x.length ≤ 1000000 ∧ PyData.strOk x = true then (match readC x.cps.toList with
    | some ds => .val (vD ds)
    | none => .err "NoText") else .no
  | [v] => if v.top = true then .err "NoText" else .no
  | _ => .no
abbrev F_read : FV := pureF P_read
theorem dcode_lt {ds : List (List Int)} : ∀ c ∈ diceC ds, c < 256 := fun c h => by
  rcases join_mem h with h | ⟨p, hp, h⟩
  · simp at h; omega
  · obtain ⟨d, _, rfl⟩ := List.mem_map.mp hp
    rcases join_mem h with h | ⟨q, hq, h⟩
    · simp at h; omega
    · obtain ⟨f, _, rfl⟩ := List.mem_map.mp hq
      have := TL.numL_digits f.toNat c h
      omega
theorem ok_dice (ds : List (List Int)) : PyData.strOk (SX.S (diceC ds)) = true := by
  show (diceC ds).toArray.all _ = true
  rw [List.all_toArray, List.all_eq_true]
  intro c hc
  have := dcode_lt c hc
  simp
  omega
theorem join_len (s : List Nat) : ∀ ps : List (List Nat), (TL.joinL s ps).length ≤ (ps.map (·.length)).sum + ps.length * s.length
  | [] => Nat.zero_le _
  | [p] => by simp [TL.joinL]
  | p :: q :: r => by
    have := join_len s (q :: r)
    rw [TL.joinL, List.length_append, List.length_append]
    simp only [List.map_cons, List.sum_cons, List.length_cons, Nat.succ_mul] at this ⊢
    omega
theorem sum_le_len {l : List Nat} {b : Nat} (h : ∀ x ∈ l, x ≤ b) : l.sum ≤ l.length * b := by
  induction l with
  | nil => simp
  | cons x l ih =>
    have h1 := h x List.mem_cons_self
    have h2 := ih fun y hy => h y (List.mem_cons_of_mem _ hy)
    rw [List.sum_cons, List.length_cons, Nat.succ_mul]
    omega
theorem die_sum {d : List Int} (h : dieN d = true) : ((d.map faceC).map (·.length)).sum ≤ 16 := by
  have hdie := dieN_iff.mp h
  refine Nat.le_trans (sum_le_len (b := 2) fun x hx => ?_) ?_
  · obtain ⟨p, hp, rfl⟩ := List.mem_map.mp hx
    obtain ⟨f, hf, rfl⟩ := List.mem_map.mp hp
    have := hdie.2.2.1 f hf
    exact face_len this.1 this.2
  · rw [List.length_map, List.length_map]
    omega
theorem die_len {d : List Int} (h : dieN d = true) : (dieC d).length ≤ 24 := by
  have hdie := dieN_iff.mp h
  have h1 := die_sum h
  have h2 := join_len [44] (d.map faceC)
  rw [List.length_map, List.length_singleton] at h2
  unfold dieC
  omega
theorem dice_sum {ds : List (List Int)} (h : diceN ds) : ((ds.map dieC).map (·.length)).sum ≤ 96 := by
  refine Nat.le_trans (sum_le_len (b := 24) fun x hx => ?_) ?_
  · obtain ⟨p, hp, rfl⟩ := List.mem_map.mp hx
    obtain ⟨d, hd, rfl⟩ := List.mem_map.mp hp
    exact die_len (h.2.2 d hd)
  · rw [List.length_map, List.length_map]
    have := h.2.1
    omega
theorem dice_len {ds : List (List Int)} (h : diceN ds) : (diceC ds).length ≤ 100 := by
  have h1 := dice_sum h
  have h2 := join_len [32] (ds.map dieC)
  rw [List.length_map, List.length_singleton] at h2
  have := h.2.1
  unfold diceC
  omega
end DL

/-! One lemma for each expression form: reckoned from its parts. -/
namespace DL
open PySem PySem.Spec PyProof.Rows L2
section
variable {ρ : Rho} {st st1 st2 st3 st4 : Sto} {u v w x : Val} {a b c d : ME}
theorem seq_1 (h1 : a ρ st = .ok v st1) : mSeqA a mNilA ρ st = .ok [v] st1 := by simp only [mSeqA_ap, h1, mNilA_ap]
theorem seq_2 (h1 : a ρ st = .ok v st1) (h2 : b ρ st1 = .ok w st2) : mSeqA a (mSeqA b mNilA) ρ st = .ok [v, w] st2 := by simp only [mSeqA_ap, h1, h2, mNilA_ap]
theorem seq_3 (h1 : a ρ st = .ok v st1) (h2 : b ρ st1 = .ok w st2) (h3 : c ρ st2 = .ok x st3) : mSeqA a (mSeqA b (mSeqA c mNilA)) ρ st = .ok [v, w, x] st3 := by simp only [mSeqA_ap, h1, h2, h3, mNilA_ap]
theorem seq_n {ms : MA} {vs : List Val} (h1 : a ρ st = .ok v st1) (h2 : ms ρ st1 = .ok vs st2) : mSeqA a ms ρ st = .ok (v :: vs) st2 := by simp only [mSeqA_ap, h1, h2]
theorem op_2 {F : Val → Val → Sto → Res Val} (h1 : a ρ st = .ok v st1) (h2 : b ρ st1 = .ok w st2) : mOp F a b ρ st = F v w st2 := by simp only [mOp_ap, h1, h2]
theorem un_1 {F : Val → Sto → Res Val} (h1 : a ρ st = .ok v st1) : mUn F a ρ st = F v st1 := by simp only [mUn_ap, h1]
theorem call_n {F : FV} {ms : MA} {vs : List Val} (h1 : ms ρ st = .ok vs st1) : mCall F ms ρ st = F vs st1 := by simp only [mCall_ap, h1]
theorem call_1 {F : FV} (h1 : a ρ st = .ok v st1) : mCall F (mSeqA a mNilA) ρ st = F [v] st1 := call_n (seq_1 h1)
theorem call_2 {F : FV} (h1 : a ρ st = .ok v st1) (h2 : b ρ st1 = .ok w st2) : mCall F (mSeqA a (mSeqA b mNilA)) ρ st = F [v, w] st2 := call_n (seq_2 h1 h2)
theorem call_3 {F : FV} (h1 : a ρ st = .ok v st1) (h2 : b ρ st1 = .ok w st2) (h3 : c ρ st2 = .ok x st3) : mCall F (mSeqA a (mSeqA b (mSeqA c mNilA))) ρ st = F [v, w, x] st3 := call_n (seq_3 h1 h2 h3)
theorem lift_1 {G : Val → Sto → Option Val} {r : Val} (h : a ρ st = .ok v st1) (hg : G v st1 = some r) : mCall (lift1 G) (mSeqA a mNilA) ρ st = .ok r st1 := (call_1 h).trans (by rw [lift1_ap, hg])
theorem bool_1 {k : Bool} (h : a ρ st = .ok (.bl k) st1) : mBool a ρ st = .ok k st1 := by rw [mBool_ap, h]
theorem not_1 {m : MT} {k : Bool} (h : m ρ st = .ok k st1) : mNot m ρ st = .ok (!k) st1 := by rw [mNot_ap, h]
theorem or_no {m n : MT} {r : Res Bool} (h : m ρ st = .ok false st1) (k : n ρ st1 = r) : mOr m n ρ st = r := by rw [mOr_ap, h]; exact k
theorem or_yes {m n : MT} (h : m ρ st = .ok true st1) : mOr m n ρ st = .ok true st1 := by rw [mOr_ap, h]; rfl
theorem and_yes {m n : MT} {r : Res Bool} (h : m ρ st = .ok true st1) (k : n ρ st1 = r) : mAnd m n ρ st = r := by rw [mAnd_ap, h]; exact k
theorem and_no {m n : MT} (h : m ρ st = .ok false st1) : mAnd m n ρ st = .ok false st1 := by rw [mAnd_ap, h]; rfl
theorem andV_yes {r : Res Val} (h : a ρ st = .ok (.bl true) st1) (k : b ρ st1 = r) : mAndV a b ρ st = r := by rw [mAndV_ap, h]; exact k
theorem andV_no (h : a ρ st = .ok (.bl false) st1) : mAndV a b ρ st = .ok (.bl false) st1 := by rw [mAndV_ap, h]
theorem orV_no {r : Res Val} (h : a ρ st = .ok (.bl false) st1) (k : b ρ st1 = r) : mOrV a b ρ st = r := by rw [mOrV_ap, h]; exact k
theorem orV_yes (h : a ρ st = .ok (.bl true) st1) : mOrV a b ρ st = .ok (.bl true) st1 := by rw [mOrV_ap, h]
theorem ife_yes {m : MT} {r : Res Val} (h : m ρ st = .ok true st1) (k : a ρ st1 = r) : mIf m a b ρ st = r := by rw [mIf_ap, h]; exact k
theorem ife_no {m : MT} {r : Res Val} (h : m ρ st = .ok false st1) (k : b ρ st1 = r) : mIf m a b ρ st = r := by rw [mIf_ap, h]; exact k
theorem val_c {m : MC} {k : Cell} (h : m ρ st = .ok k st1) (hk : isLD k = true) : mVal m ρ st = .ok (.ofCell k) st1 := by rw [mVal_ap, h]; exact if_pos hk
theorem new_c {m : MC} {k : Cell} (h : m ρ st = .ok k st1) : mNew m ρ st = .ok (.ref st1.length) (st1 ++ [k]) := by rw [mNew_ap, h]
theorem lst_c {ms : MA} {vs : List Val} (h : ms ρ st = .ok vs st1) (hz : vs.length ≤ 1000000) : mLst ms ρ st = .ok (.lst vs) st1 := by
  rw [mLst_ap, h]
  exact if_pos (Nat.le_trans hz (by decide))
theorem lst_v {ms : MA} {vs : List Val} (h : ms ρ st = .ok vs st1) (hz : vs.length ≤ 1000000) : mVal (mLst ms) ρ st = .ok (.lst vs) st1 := val_c (lst_c h hz) rfl
theorem tup_v {ms : MA} {vs : List Val} (h : ms ρ st = .ok vs st1) (hz : vs.length ≤ 1000000) : mTup ms ρ st = .ok (.tup vs) st1 := by
  rw [mTup_ap, h]
  exact if_pos (Nat.le_trans hz (by decide))
theorem comp_c {mi : MI} {t : Tg} {cond : MT} {elt : ME} {ws : List Nat} {items vs : List Val} {g : Option (Nat × Cell)} (hi : mi ρ st = .ok ⟨items, g⟩ st1) (hc : compLoop t cond elt g (wipeR ρ ws) items [] st1 = .ok vs st2) : mComp mi t cond elt ws ρ st = .ok (.lst vs) st2 := by
  rw [mComp_ap, hi]
  dsimp only
  rw [hc]
theorem comp_v {mi : MI} {t : Tg} {cond : MT} {elt : ME} {ws : List Nat} {items vs : List Val} {g : Option (Nat × Cell)} (hi : mi ρ st = .ok ⟨items, g⟩ st1) (hc : compLoop t cond elt g (wipeR ρ ws) items [] st1 = .ok vs st2) : mVal (mComp mi t cond elt ws) ρ st = .ok (.lst vs) st2 := val_c (comp_c hi hc) rfl
theorem meth_n {chk : Val → Sto → Bool} {F : FM} {ms : MA} {vs : List Val} (h : a ρ st = .ok v st1) (hc : chk v st1 = true) (k : ms ρ st1 = .ok vs st2) : mMeth chk F a ms ρ st = F v vs st2 := by
  rw [mMeth_ap, h]
  dsimp only
  rw [if_pos hc, k]
theorem meth_1 {chk : Val → Sto → Bool} {F : FM} (h : a ρ st = .ok v st1) (hc : chk v st1 = true) (k : b ρ st1 = .ok w st2) : mMeth chk F a (mSeqA b mNilA) ρ st = F v [w] st2 := meth_n h hc (seq_1 k)
theorem for_in {mi : MI} {t : Tg} {body : MS} {items : List Val} {g : Option (Nat × Cell)} {r : ResS} (hi : mi ρ st = .ok ⟨items, g⟩ st1) (k : loop t body g items ρ st1 = r) : mFor mi t body ρ st = r := by
  rw [mFor_ap, hi]
  exact k
theorem it_lst {vs : List Val} (h : a ρ st = .ok (.lst vs) st1) : mItL a ρ st = .ok ⟨vs, none⟩ st1 := by
  rw [mItL_ap, h]
  rfl
theorem it_tup {vs : List Val} (h : a ρ st = .ok (.tup vs) st1) : mItT a ρ st = .ok ⟨vs, none⟩ st1 := by
  rw [mItT_ap, h]
  rfl
theorem it_ref {l : Nat} {vs : List Val} (h : a ρ st = .ok (.ref l) st1) (hl : st1[l]? = some (.lst vs)) : mItL a ρ st = .ok ⟨vs, some (l, .lst vs)⟩ st1 := by
  rw [mItL_ap, h]
  simp only [itemsL, hl]
theorem it_rng {n : Int} (h : a ρ st = .ok (.int n) st1) (h1 : -1000000 ≤ n) (h2 : n ≤ 1000000) : mRng1 a ρ st = .ok ⟨rng 0 n.toNat, none⟩ st1 := by
  rw [mRng1_ap, h]
  dsimp only
  rw [if_pos ⟨h1, h2⟩]
theorem it_rng2 {i j : Int} (h : a ρ st = .ok (.int i) st1) (k : b ρ st1 = .ok (.int j) st2) (h1 : -1000000 ≤ i ∧ i ≤ 1000000 ∧ -1000000 ≤ j ∧ j ≤ 1000000) : mRng2 a b ρ st = .ok ⟨rng i (j - i).toNat, none⟩ st2 := by
  unfold mRng2
  simp only [h, k, Res.bind]
  rw [if_pos h1]
theorem it_enum {vs : List Val} (h : a ρ st = .ok (.tup vs) st1) : mEnumT a ρ st = .ok ⟨enumF 0 vs, none⟩ st1 := by
  unfold mEnumT
  simp only [h, Res.bind, enumIt]
theorem isi_1 {T n : Ty} (h : a ρ st = .ok v st1) (ht : tyOf v st1 = some n) : mIsi T a ρ st = .ok (.bl (isTy n T)) st1 := by
  rw [mIsi_ap, h]
  simp only [ht]
theorem drop_1 {k : MS} {r : ResS} (h : a ρ st = .ok v st1) (e : k ρ st1 = r) : mSeq (mDrop a) k ρ st = r := st_drop h e
theorem push_at {l : Nat} {vs : List Val} (h : st[l]? = some (.lst vs)) (hz : vs.length ≤ 1000000) : appendF (.ref l) [w] st = .ok .non (st.set l (.lst (vs ++ [w]))) := by
  unfold appendF
  have : lstAt st l = some vs := by unfold lstAt; rw [h]
  simp only [this]
  rw [if_pos (Nat.lt_of_le_of_lt hz (by decide))]
theorem chk_at {l : Nat} {vs : List Val} (h : st[l]? = some (.lst vs)) : chkL (.ref l) st = true := by
  unfold chkL
  show (lstAt st l).isSome = true
  unfold lstAt
  rw [h]
  rfl
theorem set_end (st : Sto) (c d : Cell) : (st ++ [c]).set st.length d = st ++ [d] := by
  rw [List.set_append_right _ _ (Nat.le_refl _), Nat.sub_self, List.set_cons_zero]
theorem set_same {l : Nat} {c : Cell} (h : st[l]? = some c) : st.set l c = st := by
  obtain ⟨h1, h2⟩ := List.getElem?_eq_some_iff.mp h
  rw [← h2, List.set_getElem_self]
theorem lenL (vs : List Val) (st : Sto) : lenG (.lst vs) st = some (.int (vs.length : Nat)) := rfl
theorem lenT (vs : List Val) (st : Sto) : lenG (.tup vs) st = some (.int (vs.length : Nat)) := rfl
theorem ix_L {vs : List Val} {i : Nat} (h : vs[i]? = some v) (st : Sto) : ixF (.lst vs) (.int (i : Nat)) st = .ok v st := by simp only [ixF, seqOf, atI_nat h]
theorem ix_T {vs : List Val} {i : Nat} (h : vs[i]? = some v) (st : Sto) : ixF (.tup vs) (.int (i : Nat)) st = .ok v st := by simp only [ixF, seqOf, atI_nat h]
theorem gt_int {i j : Int} {st : Sto} : gtF (.int i) (.int j) st = .ok (.bl (decide (i > j))) st := rfl
theorem sort_L {ns : List Int} (st : Sto) : sortG (.lst (ns.map Val.int)) st = some (.lst ((sortI ns).map Val.int)) := by
  unfold sortG seqOf
  dsimp only
  rw [if_pos (sortOk_ints _), sortV_ints]
end
theorem Drawn.fst {c : Cell} {x t : Sto} {n : Nat} (h : Drawn 0 n (c :: x) t) : ∃ c', t = c' :: x := by
  obtain ⟨ws, k, _, _, rfl⟩ := h
  exact ⟨_, rfl⟩
abbrev refV (j : Nat) : Val := .tup [.str "refused", .int (j : Nat)]
theorem nb_refV (j : Nat) : Val.nb (refV j) = true ∧ Val.dep (refV j) ≤ 1 := by
  have : PyData.strOk "refused" = true := by decide +kernel
  exact ⟨by simp [Val.nb, Val.nbs, this], by simp [Val.dep, Val.deps]⟩
end DL

namespace Lw
open PySem L2 L2H DL
set_option linter.all false
def top (i : Nat) : Stmt := PySem.Challenge.pw_dicesums_k09_whole_texts.main.body.getD i (.Pass ⟨0, 0, 0, 0⟩)
abbrev s_is_whole : Stmt := top 12
abbrev s_is_die : Stmt := top 13
abbrev s_are_dice : Stmt := top 14
abbrev s_need_dice : Stmt := top 15
abbrev s_text_of : Stmt := top 18
abbrev s_shown : Stmt := top 19
abbrev s_number : Stmt := top 20
abbrev s_read : Stmt := top 21
abbrev s__law_cell_at : Stmt := top 23
abbrev s__law_mixed : Stmt := top 24
abbrev s__law_draw : Stmt := top 25
abbrev s__law_pick : Stmt := top 26
abbrev s__law_die : Stmt := top 27
abbrev s__law_dice : Stmt := top 28
abbrev s__law_ask : Stmt := top 30
abbrev s__law_shown : Stmt := top 31
abbrev s_law : Stmt := top 32
abbrev s__law_which : Stmt := top 29
structure Txt (K : PySem.W.Frag) (mg : Str → Option Value) (DE : Addr) : Prop where
  b_ValueError : mg "ValueError" = none
  b_all : mg "all" = none
  b_bool : mg "bool" = none
  b_enumerate : mg "enumerate" = none
  b_int : mg "int" = none
  b_isinstance : mg "isinstance" = none
  b_len : mg "len" = none
  b_list : mg "list" = none
  b_min : mg "min" = none
  b_range : mg "range" = none
  b_sorted : mg "sorted" = none
  b_str : mg "str" = none
  b_tuple : mg "tuple" = none
  k_DICE : ∃ u, mg "DICE" = some u ∧ RelV (.int 4) u
  k_FACE : ∃ u, mg "FACE" = some u ∧ RelV (.int 30) u
  k_FACES : ∃ u, mg "FACES" = some u ∧ RelV (.int 8) u
  k_FIGURES : ∃ u, mg "FIGURES" = some u ∧ RelV (.str "0123456789") u
  x_NoDice : ExcT K mg "NoDice"
  x_NoText : ExcT K mg "NoText"
  f_is_whole : DefT K mg "is_whole" s_is_whole ["thing", "low", "most"]
  f_is_die : DefT K mg "is_die" s_is_die ["thing"]
  f_are_dice : DefT K mg "are_dice" s_are_dice ["thing"]
  f_need_dice : DefT K mg "need_dice" s_need_dice ["thing"]
  f_text_of : DefT K mg "text_of" s_text_of ["dice"]
  f_shown : DefT K mg "shown" s_shown ["dice"]
  f_number : DefT K mg "number" s_number ["word"]
  f_read : DefT K mg "read" s_read ["text"]
  f__law_cell_at : DefT K mg "_law_cell_at" s__law_cell_at ["_law_script", "_law_k"]
  f__law_mixed : DefT K mg "_law_mixed" s__law_mixed ["_law_script", "_law_k", "_law_many"]
  f__law_draw : DefT K mg "_law_draw" s__law_draw ["_law_script", "_law_town", "_law_many"]
  f__law_pick : DefT K mg "_law_pick" s__law_pick ["_law_script", "_law_town", "_law_some"]
  f__law_die : DefT K mg "_law_die" s__law_die ["_law_script", "_law_town", "_law_faces", "_law_most"]
  f__law_dice : DefT K mg "_law_dice" s__law_dice ["_law_script", "_law_town", "_law_many", "_law_faces"]
  f__law_ask : DefT K mg "_law_ask" s__law_ask ["_law_text"]
  f__law_shown : DefT K mg "_law_shown" s__law_shown ["_law_dice_here"]
  f_law : DefT K mg "law" s_law ["_law_script"]
  f__law_which : DefT K mg "_law_which" s__law_which ["_law_e"]
  g_DiceError : mg "DiceError" = some (.ref DE)
  e_NoDice : ∃ D : Addr, ErrT K mg DE "NoDice" D ∧ ErrIs K mg D "NoDie" false ∧ ErrIs K mg D "NoDice" true ∧ ErrIs K mg D "NoTotals" false ∧ ErrIs K mg D "NoNumber" false ∧ ErrIs K mg D "TooMany" false ∧ ErrIs K mg D "NoText" false
  e_NoText : ∃ D : Addr, ErrT K mg DE "NoText" D ∧ ErrIs K mg D "NoDie" false ∧ ErrIs K mg D "NoDice" false ∧ ErrIs K mg D "NoTotals" false ∧ ErrIs K mg D "NoNumber" false ∧ ErrIs K mg D "TooMany" false ∧ ErrIs K mg D "NoText" true
def idx (c : Str) : Option Nat := if c = "NoDice" then some 1 else if c = "NoText" then some 5 else none
/-! is_whole -/
theorem sc_is_whole : FnScope ["thing", "low", "most"] ["thing", "low", "most"] (defScope s_is_whole) := ⟨rfl, rfl, rfl, by decide +kernel, rfl, by decide +kernel, by decide +kernel⟩
noncomputable def m_is_whole : MS := (mRet (mAndV (mIsi .int (mVar 0)) (mAndV (mNotV (mIsi .bl (mVar 0))) (mChain leF leF (mVar 1) (mVar 0) (mVar 2)))))
noncomputable def B_is_whole : FV := runB 3 3 m_is_whole
theorem ref_is_whole : Refines F_is_whole B_is_whole := ref_pure fun args st => by
  unfold P_is_whole
  split
  · rename_i v lo hi
    by_cases h : v.top = true
    · refine .inr (.inl ⟨_, [], if_pos h, fun _ => .bl _, ?_⟩)
      rw [B_is_whole, m_is_whole]
      cases v with
      | int i => by_cases h1 : lo ≤ i <;> by_cases h2 : i ≤ hi <;> simp [tyOf, isTy, leF, wholeB, h1, h2]
      | _ => first | (cases h; done) | simp [tyOf, isTy, wholeB]
    · exact .inl (if_neg h)
  · exact .inl rfl
/-! is_die -/
theorem sc_is_die : FnScope ["thing", "face"] ["thing"] (defScope s_is_die) := ⟨rfl, rfl, rfl, by decide +kernel, rfl, by decide +kernel, by decide +kernel⟩
noncomputable def m_is_die : MS := (mSeq (mIfS (mOr (mNot (mBool (mIsi .tup (mVar 0)))) (mNot (mBool (mChain leF leF (mC (.int 1)) (mCall (lift1 lenG) (mSeqA (mVar 0) mNilA)) (mC (.int 8)))))) (mRet (mC (.bl false))) mNext)
  (mSeq (mIfS (mNot (mBool (mCall (lift1 allG) (mSeqA (mVal (mComp (mItT (mVar 0)) (Tg.name 1) mTrue (mCall F_is_whole (mSeqA (mVar 1) (mSeqA (mC (.int 0)) (mSeqA (mC (.int 30)) mNilA)))) [1])) mNilA)))) (mRet (mC (.bl false))) mNext)
  (mRet (mOp eqF (mCall (lift1 listG) (mSeqA (mVar 0) mNilA)) (mCall (lift1 sortG) (mSeqA (mVar 0) mNilA))))))
noncomputable def B_is_die : FV := runB 1 2 m_is_die
theorem ref_is_die : Refines F_is_die B_is_die := ref_pure fun args st => by
  unfold P_is_die
  split
  · rename_i v
    by_cases h : saneDie v = true
    · refine .inr (.inl ⟨_, [], if_pos h, fun _ => .bl _, ?_⟩)
      rw [B_is_die, m_is_die, List.append_nil]
      cases v with
      | tup vs =>
        have hs : ∀ x ∈ vs, x.top = true := by simpa [saneDie, Val.top] using h
        have hc : compLoop (Tg.name 1) mTrue (mCall F_is_whole (mSeqA (mVar 1) (mSeqA (mC (.int 0)) (mSeqA (mC (.int 30)) mNilA)))) none [some (.tup vs), none] vs [] st = .ok (vs.map fun v => .bl (wholeB v 0 30)) st := by
          refine (comp_pure none trivial (fun v => .bl (wholeB v 0 30)) vs [] fun v hv => ⟨[some (.tup vs), some v], rfl, rfl, ?_⟩).trans (by simp)
          simp [pureF, P_is_whole, hs v hv]
        have hb : ∀ b : Bool, vs.all (fun v => wholeB v 0 30) = b → ((vs.map fun v => wholeB v 0 30).all id) = b := by
          intro b e
          rw [← e]
          simp [Function.comp_def]
        have hd : (1 ≤ vs.length ∧ vs.length ≤ 8) ∨ dieOf (.tup vs) = none := by
          by_cases hl : 1 ≤ vs.length ∧ vs.length ≤ 8
          · exact .inl hl
          · right
            simp only [dieOf]
            cases hi : intsOf vs with
            | none => rfl
            | some ns =>
              have := intsOf_eq hi
              subst this
              rw [List.length_map] at hl
              exact if_neg fun q => hl ⟨(dieN_iff.mp q).1, (dieN_iff.mp q).2.1⟩
        by_cases hl : 1 ≤ vs.length ∧ vs.length ≤ 8
        · have h1 : (1 : Int) ≤ vs.length := by omega
          have h2 : (vs.length : Int) ≤ 8 := by omega
          cases ha : vs.all (fun v => wholeB v 0 30) with
          | false =>
            have hn : dieOf (.tup vs) = none := by
              simp only [dieOf]
              cases hi : intsOf vs with
              | none => rfl
              | some ns =>
                have := intsOf_eq hi
                subst this
                refine if_neg fun q => ?_
                have := all_whole.mpr ⟨ns, rfl, (dieN_iff.mp q).2.2.1⟩
                rw [ha] at this
                cases this
            rw [hn]
            simp [tyOf, isTy, leF, lenG, seqOf, itemsT, h1, h2, wipeR, hc, isLD, Val.ofCell, allG, readL, boolsOf_f, hb _ ha, -List.map_map]
          | true =>
            obtain ⟨ns, rfl, hr⟩ := all_whole.mp ha
            rw [List.length_map] at h1 h2 hl
            have he : dieN ns = decide (ns = sortI ns) := by
              simp only [dieN]
              rw [decide_eq_decide]
              exact ⟨fun q => (sortI_of q.2.2.2).symm, fun q => ⟨hl.1, hl.2, hr, sortI_eq.mp q.symm⟩⟩
            have hq : eqF (.lst (ns.map Val.int)) (.lst ((sortI ns).map Val.int)) st = .ok (.bl (dieN ns)) st := by
              rw [eqF_nb (by simp [Val.nb]) (by simp [Val.nb]) (by simp [Val.dep]) (by simp [Val.dep]), he]
              congr 2
              rw [decide_eq_decide]
              simp [map_int_inj]
            have hz : (dieOf (.tup (ns.map Val.int))).isSome = dieN ns := by
              simp only [dieOf, intsOf_map]
              cases dieN ns <;> rfl
            rw [hz]
            simp [tyOf, isTy, leF, lenG, seqOf, itemsT, h1, h2, wipeR, hc, isLD, Val.ofCell, allG, readL, boolsOf_f, hb _ ha, listG, sortG, sortOk_ints, sortV_ints, hq, -List.map_map]
        · have hn := hd.resolve_left hl
          rw [hn]
          by_cases h1 : (1 : Int) ≤ vs.length
          · have h2 : ¬ (vs.length : Int) ≤ 8 := by omega
            simp [tyOf, isTy, leF, lenG, seqOf, h1, h2]
          · simp [tyOf, isTy, leF, lenG, seqOf, h1]
      | _ => first | (cases h; done) | simp [tyOf, isTy, dieOf]
    · exact .inl (if_neg h)
  · exact .inl rfl
/-! are_dice -/
theorem sc_are_dice : FnScope ["thing", "die"] ["thing"] (defScope s_are_dice) := ⟨rfl, rfl, rfl, by decide +kernel, rfl, by decide +kernel, by decide +kernel⟩
noncomputable def m_are_dice : MS := (mRet (mAndV (mIsi .tup (mVar 0)) (mAndV (mChain leF leF (mC (.int 1)) (mCall (lift1 lenG) (mSeqA (mVar 0) mNilA)) (mC (.int 4))) (mCall (lift1 allG) (mSeqA (mVal (mComp (mItT (mVar 0)) (Tg.name 1) mTrue (mCall F_is_die (mSeqA (mVar 1) mNilA)) [1])) mNilA)))))
noncomputable def B_are_dice : FV := runB 1 2 m_are_dice
theorem ref_are_dice : Refines F_are_dice B_are_dice := ref_pure fun args st => by
  unfold P_are_dice
  split
  · rename_i v
    by_cases h : saneDice v = true
    · refine .inr (.inl ⟨_, [], if_pos h, fun _ => .bl _, ?_⟩)
      rw [B_are_dice, m_are_dice, List.append_nil]
      cases v with
      | tup vs =>
        have hs : ∀ x ∈ vs, saneDie x = true := by simpa [saneDice, Val.top] using h
        have hc : compLoop (Tg.name 1) mTrue (mCall F_is_die (mSeqA (mVar 1) mNilA)) none [some (.tup vs), none] vs [] st = .ok (vs.map fun v => .bl (dieOf v).isSome) st := by
          refine (comp_pure none trivial (fun v => .bl (dieOf v).isSome) vs [] fun v hv => ⟨[some (.tup vs), some v], rfl, rfl, ?_⟩).trans (by simp)
          simp [pureF, P_is_die, hs v hv]
        have hb : ∀ b : Bool, (diesOf vs).isSome = b → ((vs.map fun v => (dieOf v).isSome).all id) = b := by
          intro b e
          rw [← e, ← diesOf_all]
          simp [Function.comp_def]
        by_cases h1 : (1 : Int) ≤ vs.length
        · by_cases h2 : (vs.length : Int) ≤ 4
          · have e : diceOf (.tup vs) = diesOf vs := if_pos ⟨by omega, by omega⟩
            rw [e]
            simp [tyOf, isTy, lenG, seqOf, itemsT, h1, h2, wipeR, hc, isLD, Val.ofCell, allG, readL, boolsOf_f, hb _ rfl, -List.map_map]
          · have e : diceOf (.tup vs) = none := if_neg fun q => h2 (by omega)
            rw [e]
            simp [tyOf, isTy, lenG, seqOf, h1, h2]
        · have e : diceOf (.tup vs) = none := if_neg fun q => h1 (by omega)
          rw [e]
          simp [tyOf, isTy, lenG, seqOf, h1]
      | _ => first | (cases h; done) | simp [tyOf, isTy, diceOf]
    · exact .inl (if_neg h)
  · exact .inl rfl
/-! need_dice -/
theorem sc_need_dice : FnScope ["thing"] ["thing"] (defScope s_need_dice) := ⟨rfl, rfl, rfl, by decide +kernel, rfl, by decide +kernel, by decide +kernel⟩
noncomputable def m_need_dice : MS := (mIfS (mNot (mBool (mCall F_are_dice (mSeqA (mVar 0) mNilA)))) (mRaise "NoDice") mNext)
noncomputable def B_need_dice : FV := runB 1 1 m_need_dice
theorem ref_need_dice : Refines F_need_dice B_need_dice := ref_pure fun args st => by
  unfold P_need_dice
  split
  · rename_i v
    by_cases h : saneDice v = true
    · rw [if_pos h, B_need_dice, m_need_dice]
      by_cases hd : (diceOf v).isSome = true
      · refine .inr (.inl ⟨_, [], if_pos hd, fun _ => .non, ?_⟩)
        simp [pureF, P_are_dice, h, hd]
      · refine .inr (.inr ⟨_, [], if_neg hd, ?_⟩)
        rw [Bool.not_eq_true] at hd
        simp [pureF, P_are_dice, h, hd]
    · exact .inl (if_neg h)
  · exact .inl rfl
/-! text_of -/
theorem sc_text_of : FnScope ["dice", "die", "face"] ["dice"] (defScope s_text_of) := ⟨rfl, rfl, rfl, by decide +kernel, rfl, by decide +kernel, by decide +kernel⟩
noncomputable def m_text_of : MS := (mRet (mJoin (mC (.str " ")) (mVal (mComp (mItT (mVar 0)) (Tg.name 1) mTrue (mJoin (mC (.str ",")) (mVal (mComp (mItT (mVar 1)) (Tg.name 2) mTrue (mCall (lift1 strG) (mSeqA (mVar 2) mNilA)) [2]))) [1]))))
noncomputable def B_text_of : FV := runB 1 3 m_text_of
theorem ref_text_of : Refines F_text_of B_text_of := ref_pure fun args st => by
  unfold P_text_of
  split
  · rename_i v
    cases hd : diceOf v with
    | none => exact .inl rfl
    | some ds =>
      obtain ⟨rfl, hn⟩ := diceOf_eq hd
      refine .inr (.inl ⟨_, [], rfl, fun _ => .str _, ?_⟩)
      rw [List.append_nil, B_text_of, m_text_of]
      refine run_ret rfl (st_ret ?_)
      have inner : ∀ d ∈ ds, mJoin (mC (.str ",")) (mVal (mComp (mItT (mVar 1)) (Tg.name 2) mTrue (mCall (lift1 strG) (mSeqA (mVar 2) mNilA)) [2])) [some (vD ds), some (vI d), none] st = .ok (.str (SX.S (dieC d))) st := fun d hdm => by
        have hdie := dieN_iff.mp (hn.2.2 d hdm)
        have c1 : compLoop (Tg.name 2) mTrue (mCall (lift1 strG) (mSeqA (mVar 2) mNilA)) none [some (vD ds), some (vI d), none] (d.map Val.int) [] st = .ok (((d.map faceC).map SX.S).map Val.str) st := by
          refine (comp_pure none trivial (fun v => match v with | .int f => .str (SX.S (faceC f)) | v => v) (d.map Val.int) [] fun v hv => ?_).trans ?_
          · obtain ⟨f, hf, rfl⟩ := List.mem_map.mp hv
            have hb := hdie.2.2.1 f hf
            refine ⟨[some (vD ds), some (vI d), some (.int f)], rfl, rfl, ?_⟩
            have e : strG (.int f) st = some (.str (SX.S (faceC f))) := by
              obtain ⟨n, rfl⟩ := Int.eq_ofNat_of_zero_le hb.1
              unfold strG
              dsimp only
              rw [if_pos ⟨by omega, by omega⟩]
              congr 2
              exact SX.num_S n
            simp only [mCall_ap, mSeqA_ap, mVar_ap, mNilA_ap, List.getElem?_cons_succ, List.getElem?_cons_zero, lift1_ap, e]
          · rw [List.nil_append, List.map_map, List.map_map, List.map_map]
            rfl
        have e2 : mVal (mComp (mItT (mVar 1)) (Tg.name 2) mTrue (mCall (lift1 strG) (mSeqA (mVar 2) mNilA)) [2]) [some (vD ds), some (vI d), none] st = .ok (.lst (((d.map faceC).map SX.S).map Val.str)) st := by
          simp only [mVal_ap, mComp_ap, mItT_ap, mVar_ap, List.getElem?_cons_succ, List.getElem?_cons_zero, itemsT, wipeR, List.set_cons_succ, List.set_cons_zero, c1, isLD, Val.ofCell, if_true]
        have hs := die_sum (hn.2.2 d hdm)
        have he : (",": Str) = SX.S [44] := by decide +kernel
        refine (mJoin_ap (a := ",") (ys := (d.map faceC).map SX.S) rfl e2 (strsOf_map _) ?_).trans ?_
        · rw [he, SX.lens, SX.S_len, List.length_map, List.length_map, List.length_singleton]
          have := hdie.2.1
          omega
        · rw [he, SX.join_S]
          rfl
      have c2 : compLoop (Tg.name 1) mTrue (mJoin (mC (.str ",")) (mVal (mComp (mItT (mVar 1)) (Tg.name 2) mTrue (mCall (lift1 strG) (mSeqA (mVar 2) mNilA)) [2]))) none [some (vD ds), none, none] (ds.map vI) [] st = .ok (((ds.map dieC).map SX.S).map Val.str) st := by
        refine (comp_pure none trivial (fun v => match v with | .tup us => .str (SX.S (dieC ((intsOf us).getD []))) | v => v) (ds.map vI) [] fun v hv => ?_).trans ?_
        · obtain ⟨d, hdm, rfl⟩ := List.mem_map.mp hv
          refine ⟨[some (vD ds), some (vI d), none], rfl, rfl, ?_⟩
          rw [inner d hdm]
          simp [intsOf_map]
        · rw [List.nil_append, List.map_map, List.map_map, List.map_map]
          congr 1
          refine List.map_congr_left fun d _ => ?_
          simp [intsOf_map]
      have e3 : mVal (mComp (mItT (mVar 0)) (Tg.name 1) mTrue (mJoin (mC (.str ",")) (mVal (mComp (mItT (mVar 1)) (Tg.name 2) mTrue (mCall (lift1 strG) (mSeqA (mVar 2) mNilA)) [2]))) [1]) [some (vD ds), none, none] st = .ok (.lst (((ds.map dieC).map SX.S).map Val.str)) st := by
        simp only [mVal_ap, mComp_ap, mItT_ap, mVar_ap, List.getElem?_cons_succ, List.getElem?_cons_zero, itemsT, wipeR, List.set_cons_succ, List.set_cons_zero, c2, isLD, Val.ofCell, if_true]
      show mJoin _ _ [some (vD ds), none, none] st = _
      have hs := dice_sum hn
      have he : (" ": Str) = SX.S [32] := by decide +kernel
      refine (mJoin_ap (a := " ") (ys := (ds.map dieC).map SX.S) rfl e3 (strsOf_map _) ?_).trans ?_
      · rw [he, SX.lens, SX.S_len, List.length_map, List.length_map, List.length_singleton]
        have := hn.2.1
        omega
      · rw [he, SX.join_S]
        rfl
  · exact .inl rfl
/-! shown -/
theorem sc_shown : FnScope ["dice"] ["dice"] (defScope s_shown) := ⟨rfl, rfl, rfl, by decide +kernel, rfl, by decide +kernel, by decide +kernel⟩
noncomputable def m_shown : MS := (mSeq (mDrop (mCall F_need_dice (mSeqA (mVar 0) mNilA)))
  (mRet (mCall F_text_of (mSeqA (mVar 0) mNilA))))
noncomputable def B_shown : FV := runB 1 1 m_shown
theorem ref_shown : Refines F_shown B_shown := ref_pure fun args st => by
  unfold P_shown
  split
  · rename_i v
    by_cases h : saneDice v = true
    · rw [if_pos h, B_shown]
      cases hd : diceOf v with
      | none =>
        refine .inr (.inr ⟨_, [], rfl, ?_⟩)
        simp [m_shown, pureF, P_need_dice, h, hd]
      | some ds =>
        refine .inr (.inl ⟨_, [], rfl, fun _ => .str _, ?_⟩)
        simp [m_shown, pureF, P_need_dice, h, hd, P_text_of]
    · exact .inl (if_neg h)
  · exact .inl rfl
/-! number -/
theorem sc_number : FnScope ["word", "sign"] ["word"] (defScope s_number) := ⟨rfl, rfl, rfl, by decide +kernel, rfl, by decide +kernel, by decide +kernel⟩
noncomputable def m_number : MS := (mSeq (mIfS (mOr (mNot (mBool (mChain leF leF (mC (.int 1)) (mCall (lift1 lenG) (mSeqA (mVar 0) mNilA)) (mC (.int 2))))) (mNot (mBool (mCall (lift1 allG) (mSeqA (mVal (mComp (mItS (mVar 0)) (Tg.name 1) mTrue (mOp inSF (mVar 1) (mC (.str "0123456789"))) [1])) mNilA))))) (mRet (mC .non)) mNext)
  (mRet (mCall (lift1 intTG) (mSeqA (mVar 0) mNilA))))
noncomputable def B_number : FV := runB 1 2 m_number
theorem figs_in : ∀ c : Nat, (decide (c ∈ (("0123456789" : Str)).cps.toList)) = (decide (48 ≤ c) && decide (c ≤ 57)) := by
  have e : (("0123456789" : Str)).cps.toList = [48, 49, 50, 51, 52, 53, 54, 55, 56, 57] := by decide +kernel
  intro c
  rw [e]
  by_cases h : 48 ≤ c ∧ c ≤ 57
  · have : c = 48 ∨ c = 49 ∨ c = 50 ∨ c = 51 ∨ c = 52 ∨ c = 53 ∨ c = 54 ∨ c = 55 ∨ c = 56 ∨ c = 57 := by omega
    rcases this with rfl | rfl | rfl | rfl | rfl | rfl | rfl | rfl | rfl | rfl <;> rfl
  · have : c ∉ [48, 49, 50, 51, 52, 53, 54, 55, 56, 57] := fun q => by simp at q; omega
    rw [decide_eq_false this, ← Bool.decide_and, decide_eq_false h]
theorem ref_number : Refines F_number B_number := ref_pure fun args st => by
  unfold P_number
  split
  · rename_i x
    by_cases hz : x.length ≤ 1000000
    · have hl : x.length = x.cps.toList.length := by simp [Str.length]
      have hsz : x.length ≤ sizeLine := by have : sizeLine = 2 ^ 24 := rfl; omega
      have cl : ∀ n, ClV n (numV x.cps.toList) := fun n => by
        unfold numV
        split
        · exact .int _
        · exact .non
      refine .inr (.inl ⟨_, [], if_pos hz, cl, ?_⟩)
      rw [List.append_nil, B_number, m_number]
      have e1 : lenG (.str x) st = some (.int (x.cps.toList.length : Nat)) := by
        unfold lenG seqOf
        dsimp only
        rw [if_pos hsz, hl]
      have e2 : compLoop (Tg.name 1) mTrue (mOp inSF (mVar 1) (mC (.str "0123456789"))) none [some (.str x), none] (signs x) [] st = .ok ((x.cps.toList.map fun c => decide (48 ≤ c) && decide (c ≤ 57)).map Val.bl) st := by
        refine (comp_pure none trivial (fun v => match v with | .str s => (match s.cps.toList with | [c] => .bl (decide (48 ≤ c) && decide (c ≤ 57)) | _ => .non) | _ => .non) (signs x) [] fun v hv => ?_).trans ?_
        · obtain ⟨c, hc, rfl⟩ := List.mem_map.mp hv
          refine ⟨[some (.str x), some (.str ⟨#[c]⟩)], rfl, rfl, ?_⟩
          simp only [mOp_ap, mVar_ap, mC_ap, List.getElem?_cons_succ, List.getElem?_cons_zero, inSF, figs_in]
        · rw [List.nil_append]
          unfold signs
          rw [List.map_map, List.map_map]
          rfl
      have e3 : allG (.lst ((x.cps.toList.map fun c => decide (48 ≤ c) && decide (c ≤ 57)).map Val.bl)) st = some (.bl (figs x.cps.toList)) := by
        rw [allG_bls]
        unfold figs
        rw [List.all_map]
        rfl
      have t1 : mBool (mChain leF leF (mC (.int 1)) (mCall (lift1 lenG) (mSeqA (mVar 0) mNilA)) (mC (.int 2))) [some (.str x), none] st = .ok (decide (1 ≤ x.cps.toList.length ∧ x.cps.toList.length ≤ 2)) st := by
        simp only [mBool_ap, mChain_ap, mCall_ap, mSeqA_ap, mVar_ap, mC_ap, mNilA_ap, List.getElem?_cons_zero, lift1_ap, e1, leF_int]
        by_cases h1 : 1 ≤ x.cps.toList.length
        · simp only [decide_eq_true (show (1 : Int) ≤ (x.cps.toList.length : Nat) by omega)]
          congr 1
          rw [decide_eq_decide]
          omega
        · simp only [decide_eq_false (show ¬ (1 : Int) ≤ (x.cps.toList.length : Nat) by omega)]
          rw [decide_eq_false (by omega)]
      have t2 : mBool (mCall (lift1 allG) (mSeqA (mVal (mComp (mItS (mVar 0)) (Tg.name 1) mTrue (mOp inSF (mVar 1) (mC (.str "0123456789"))) [1])) mNilA)) [some (.str x), none] st = .ok (figs x.cps.toList) st := by
        have e4 : mItS (mVar 0) [some (.str x), none] st = .ok ⟨signs x, none⟩ st := by
          unfold mItS
          simp only [mVar_ap, List.getElem?_cons_zero, Res.bind, itemsS]
          rw [if_pos hsz]
        simp only [mBool_ap, mCall_ap, mSeqA_ap, mVal_ap, mComp_ap, e4, wipeR, List.set_cons_succ, List.set_cons_zero, e2, isLD, Val.ofCell, if_true, mNilA_ap, lift1_ap, e3]
      unfold numV
      by_cases h1 : 1 ≤ x.cps.toList.length ∧ x.cps.toList.length ≤ 2
      · rw [decide_eq_true h1] at t1
        by_cases h2 : figs x.cps.toList = true
        · rw [h2] at t2
          rw [if_pos ⟨h1, h2⟩]
          refine run_ret rfl (st_no (t_or (t_not t1) (t_not t2)) (st_ret ?_))
          have hi : PySem.intText? x = some ((NumText.digitsVal x.cps.toList : Nat) : Int) := by
            have := SX.int_S (a := x.cps.toList) h2 (by intro e; rw [e] at h1; simp at h1) (by omega)
            rwa [SX.S_tl] at this
          have e5 : intTG (.str x) st = some (.int ((NumText.digitsVal x.cps.toList : Nat) : Int)) := by
            unfold intTG
            dsimp only
            rw [hi]
            dsimp only
            rw [if_pos (by omega)]
          show mCall _ _ [some (.str x), none] st = _
          simp only [mCall_ap, mSeqA_ap, mVar_ap, mNilA_ap, List.getElem?_cons_zero, lift1_ap, e5]
        · rw [Bool.not_eq_true] at h2
          rw [h2] at t2
          rw [if_neg (by rw [h2]; simp)]
          refine run_ret rfl ?_
          show mSeq _ _ [some (.str x), none] st = _
          rw [mSeq_ap, mIfS_ap, t_or (t_not t1) (t_not t2)]
          rfl
      · rw [decide_eq_false h1] at t1
        rw [if_neg (fun q => h1 q.1)]
        refine run_ret rfl ?_
        show mSeq _ _ [some (.str x), none] st = _
        rw [mSeq_ap, mIfS_ap, mOr_ap, t_not t1]
        rfl
    · exact .inl (if_neg hz)
  · exact .inl rfl
/-! read -/
theorem sc_read : FnScope ["text", "dice", "die", "word"] ["text"] (defScope s_read) := ⟨rfl, rfl, rfl, by decide +kernel, rfl, by decide +kernel, by decide +kernel⟩
noncomputable def m_read : MS := (mSeq (mIfS (mNot (mBool (mIsi .str (mVar 0)))) (mRaise "NoText") mNext)
  (mSeq (mSet 1 (mCall (lift1 tupG) (mSeqA (mVal (mComp (mItL (mSplit (mVar 0) (mC (.str " ")))) (Tg.name 2) mTrue (mCall (lift1 tupG) (mSeqA (mVal (mComp (mItL (mSplit (mVar 2) (mC (.str ",")))) (Tg.name 3) mTrue (mCall F_number (mSeqA (mVar 3) mNilA)) [3])) mNilA)) [2])) mNilA)))
  (mSeq (mIfS (mOr (mNot (mBool (mCall F_are_dice (mSeqA (mVar 1) mNilA)))) (mBool (mOp neF (mCall F_text_of (mSeqA (mVar 1) mNilA)) (mVar 0)))) (mRaise "NoText") mNext)
  (mRet (mVar 1)))))
noncomputable def B_read : FV := runB 1 4 m_read
theorem spl_bound (s : List Nat) : ∀ (l acc : List Nat) (k : Nat), ∀ w ∈ TL.spl s k acc l, w.length ≤ acc.length + l.length
  | [], acc, k, w, h => by
    rw [TL.spl_nil, List.mem_singleton] at h
    rw [h]
    simp
  | c :: r, acc, 0, w, h => by
    unfold TL.spl at h
    split at h
    · rcases List.mem_cons.mp h with rfl | h
      · omega
      · have := spl_bound s r [] _ w h
        simp at this ⊢
        omega
    · have := spl_bound s r _ _ w h
      simp at this ⊢
      omega
  | c :: r, acc, k + 1, w, h => by
    unfold TL.spl at h
    have := spl_bound s r _ _ w h
    simp at this ⊢
    omega
theorem top_num (cs : List Nat) : (numV cs).top = true := by
  unfold numV
  split <;> rfl
theorem sane_text (cs : List Nat) : saneDice (textV cs) = true := by
  unfold textV saneDice
  simp only [Val.top, Bool.true_and, List.all_map]
  rw [List.all_eq_true]
  intro w _
  show saneDie (wordV w) = true
  unfold wordV saneDie
  simp only [Val.top, Bool.true_and, List.all_map]
  rw [List.all_eq_true]
  intro c _
  exact top_num c
theorem ref_read : Refines F_read B_read := ref_pure fun args st => by
  have bad : ∀ v : Val, v.top = true → (∀ x, v ≠ .str x) → B_read [v] st = .exc "NoText" st := fun v ht hs => by
    have e : ∃ n, tyOf v st = some n ∧ isTy n .str = false := by
      cases v with
      | str x => exact absurd rfl (hs x)
      | non => exact ⟨_, rfl, rfl⟩
      | bl _ => exact ⟨_, rfl, rfl⟩
      | int _ => exact ⟨_, rfl, rfl⟩
      | tup _ => exact ⟨_, rfl, rfl⟩
      | lst _ => exact ⟨_, rfl, rfl⟩
      | _ => cases ht
    obtain ⟨n, e1, e2⟩ := e
    rw [B_read, m_read]
    refine run_exc (ρ1 := [some v, none, none, none]) rfl ?_
    show mSeq _ _ [some v, none, none, none] st = _
    rw [mSeq_ap, mIfS_ap, mNot_ap, mBool_ap, mIsi_ap, mVar_ap]
    simp only [List.getElem?_cons_zero, e1, e2]
    rfl
  unfold P_read
  split
  · rename_i x
    by_cases hz : x.length ≤ 1000000 ∧ PyData.strOk x = true
    · rw [if_pos hz]
      let cs := x.cps.toList
      have hx : x = SX.S cs := (SX.S_tl x).symm
      have hl : x.length = cs.length := by simp [cs, Str.length]
      have hsz : sizeLine = 2 ^ 24 := rfl
      have c1 : ∀ w : List Nat, w.length ≤ cs.length → ∀ v1, mCall (lift1 tupG) (mSeqA (mVal (mComp (mItL (mSplit (mVar 2) (mC (.str ",")))) (Tg.name 3) mTrue (mCall F_number (mSeqA (mVar 3) mNilA)) [3])) mNilA) [some (.str x), v1, some (.str (SX.S w)), none] st = .ok (wordV w) st := fun w hw v1 => by
        have he : (",": Str) = SX.S [44] := by decide +kernel
        have sp : mSplit (mVar 2) (mC (.str ",")) [some (.str x), v1, some (.str (SX.S w)), none] st = .ok (.lst (((TL.spl [44] 0 [] w).map SX.S).map Val.str)) st := by
          unfold mSplit
          simp only [mVar_ap, mC_ap, List.getElem?_cons_succ, List.getElem?_cons_zero, Res.bind]
          rw [he, if_pos ⟨rfl, by rw [SX.S_len]; omega⟩, SX.split_S (by simp) (by decide)]
        have cc : compLoop (Tg.name 3) mTrue (mCall F_number (mSeqA (mVar 3) mNilA)) none [some (.str x), v1, some (.str (SX.S w)), none] (((TL.spl [44] 0 [] w).map SX.S).map Val.str) [] st = .ok ((TL.spl [44] 0 [] w).map numV) st := by
          refine (comp_pure none trivial (fun v => match v with | .str s => numV s.cps.toList | v => v) _ [] fun v hv => ?_).trans ?_
          · obtain ⟨s, hs, rfl⟩ := List.mem_map.mp hv
            obtain ⟨p, hp, rfl⟩ := List.mem_map.mp hs
            have := spl_bound [44] w [] 0 p hp
            refine ⟨_, rfl, rfl, ?_⟩
            simp only [mCall_ap, mSeqA_ap, mVar_ap, mNilA_ap, List.set_cons_succ, List.set_cons_zero, List.getElem?_cons_succ, List.getElem?_cons_zero, pureF, P_number]
            rw [if_pos (by rw [SX.S_len]; simp at this; omega)]
            rfl
          · rw [List.nil_append, List.map_map, List.map_map]
            rfl
        simp only [mCall_ap, mSeqA_ap, mVal_ap, mComp_ap, mItL_ap, sp, itemsL, wipeR, List.set_cons_succ, List.set_cons_zero, cc, isLD, Val.ofCell, if_true, mNilA_ap, lift1_ap, tupG, seqOf, Option.map]
        rfl
      have c2 : mCall (lift1 tupG) (mSeqA (mVal (mComp (mItL (mSplit (mVar 0) (mC (.str " ")))) (Tg.name 2) mTrue (mCall (lift1 tupG) (mSeqA (mVal (mComp (mItL (mSplit (mVar 2) (mC (.str ",")))) (Tg.name 3) mTrue (mCall F_number (mSeqA (mVar 3) mNilA)) [3])) mNilA)) [2])) mNilA) [some (.str x), none, none, none] st = .ok (textV cs) st := by
        have he : (" ": Str) = SX.S [32] := by decide +kernel
        have sp : mSplit (mVar 0) (mC (.str " ")) [some (.str x), none, none, none] st = .ok (.lst (((TL.spl [32] 0 [] cs).map SX.S).map Val.str)) st := by
          unfold mSplit
          simp only [mVar_ap, mC_ap, List.getElem?_cons_zero, Res.bind]
          rw [he, if_pos ⟨rfl, by omega⟩, hx, SX.split_S (by simp) (by decide)]
        have cc : compLoop (Tg.name 2) mTrue (mCall (lift1 tupG) (mSeqA (mVal (mComp (mItL (mSplit (mVar 2) (mC (.str ",")))) (Tg.name 3) mTrue (mCall F_number (mSeqA (mVar 3) mNilA)) [3])) mNilA)) none [some (.str x), none, none, none] (((TL.spl [32] 0 [] cs).map SX.S).map Val.str) [] st = .ok ((TL.spl [32] 0 [] cs).map wordV) st := by
          refine (comp_pure none trivial (fun v => match v with | .str s => wordV s.cps.toList | v => v) _ [] fun v hv => ?_).trans ?_
          · obtain ⟨s, hs, rfl⟩ := List.mem_map.mp hv
            obtain ⟨p, hp, rfl⟩ := List.mem_map.mp hs
            have := spl_bound [32] cs [] 0 p hp
            exact ⟨_, rfl, rfl, c1 p (by simpa using this) none⟩
          · rw [List.nil_append, List.map_map, List.map_map]
            rfl
        simp only [mCall_ap, mSeqA_ap, mVal_ap, mComp_ap, mItL_ap, sp, itemsL, wipeR, List.set_cons_succ, List.set_cons_zero, cc, isLD, Val.ofCell, if_true, mNilA_ap, lift1_ap, tupG, seqOf, Option.map]
        rfl
      have hty : mBool (mIsi .str (mVar 0)) [some (.str x), none, none, none] st = .ok true st := by
        simp only [mBool_ap, mIsi_ap, mVar_ap, List.getElem?_cons_zero]
        rfl
      have ar : mBool (mCall F_are_dice (mSeqA (mVar 1) mNilA)) [some (.str x), some (textV cs), none, none] st = .ok (diceOf (textV cs)).isSome st := by
        simp only [mBool_ap, mCall_ap, mSeqA_ap, mVar_ap, mNilA_ap, List.getElem?_cons_succ, List.getElem?_cons_zero, pureF, P_are_dice, sane_text, if_true, Out.res]
      show _ ∨ (∃ v g, (match readC cs with | some ds => Out.val (vD ds) | none => .err "NoText") = .val v ∧ _ ∧ _) ∨ ∃ c g, (match readC cs with | some ds => Out.val (vD ds) | none => .err "NoText") = .err c ∧ _
      have no : readC cs = none → B_read [.str x] st = .exc "NoText" st := fun hr => by
        rw [B_read, m_read]
        refine run_exc (ρ1 := [some (.str x), some (textV cs), none, none]) rfl (st_no (t_not hty) (st_set c2 ?_))
        show mSeq _ _ [some (.str x), some (textV cs), none, none] st = _
        unfold readC at hr
        cases hd : diceOf (textV cs) with
        | none =>
          rw [hd] at ar
          rw [mSeq_ap, mIfS_ap, mOr_ap, t_not ar]
          rfl
        | some ds =>
          rw [hd] at ar hr
          dsimp only at hr
          have hne : diceC ds ≠ cs := fun e => by rw [if_pos e] at hr; cases hr
          have tx : mBool (mOp neF (mCall F_text_of (mSeqA (mVar 1) mNilA)) (mVar 0)) [some (.str x), some (textV cs), none, none] st = .ok true st := t_bool (by
            simp only [mOp_ap, mCall_ap, mSeqA_ap, mVar_ap, mNilA_ap, List.getElem?_cons_succ, List.getElem?_cons_zero, pureF, P_text_of, hd, Out.res]
            rw [neF_nb (show Val.nb (.str (SX.S (diceC ds))) = true from ok_dice ds) (show Val.nb (.str x) = true from hz.2) (by simp [Val.dep]) (by simp [Val.dep])]
            rw [decide_eq_false]
            · rfl
            · intro e
              rw [hx] at e
              injection e with e
              exact hne (SX.S_inj e))
          rw [mSeq_ap, mIfS_ap, t_or (t_not ar) tx]
          rfl
      cases hr : readC cs with
      | none => exact .inr (.inr ⟨_, [], rfl, by rw [List.append_nil]; exact no hr⟩)
      | some ds =>
        obtain ⟨hn, hcs⟩ := read_some hr
        refine .inr (.inl ⟨_, [], rfl, fun _ => .tup (cl_rows ds), ?_⟩)
        have ht : textV cs = vD ds := by rw [hcs]; exact text_dice hn
        rw [ht, diceOf_vD hn] at ar
        rw [ht] at c2
        have tx : mBool (mOp neF (mCall F_text_of (mSeqA (mVar 1) mNilA)) (mVar 0)) [some (.str x), some (vD ds), none, none] st = .ok false st := t_bool (by
          simp only [mOp_ap, mCall_ap, mSeqA_ap, mVar_ap, mNilA_ap, List.getElem?_cons_succ, List.getElem?_cons_zero, pureF, P_text_of, diceOf_vD hn, Out.res]
          rw [hx, hcs, neF_nb (show Val.nb (.str (SX.S (diceC ds))) = true from ok_dice ds) (show Val.nb (.str (SX.S (diceC ds))) = true from ok_dice ds) (by simp [Val.dep]) (by simp [Val.dep])]
          simp)
        rw [List.append_nil, B_read, m_read]
        refine run_ret rfl (st_no (t_not hty) (st_set c2 ?_))
        exact st_no (t_or (t_not ar) tx) (st_ret rfl)
    · exact .inl (if_neg hz)
  · rename_i v hv
    by_cases ht : v.top = true
    · rw [if_pos ht]
      exact .inr (.inr ⟨_, [], rfl, by rw [List.append_nil]; exact bad v ht fun x e => hv x e⟩)
    · exact .inl (if_neg ht)
  · exact .inl rfl
/-! _law_cell_at -/
theorem sc__law_cell_at : FnScope ["_law_script", "_law_k"] ["_law_script", "_law_k"] (defScope s__law_cell_at) := ⟨rfl, rfl, rfl, by decide +kernel, rfl, by decide +kernel, by decide +kernel⟩
noncomputable def m__law_cell_at : MS := (mSeq (mIfS (mBool (mOp ltF (mVar 1) (mCall (lift1 lenG) (mSeqA (mVar 0) mNilA)))) (mRet (mOp ixF (mVar 0) (mVar 1))) mNext)
  (mSeq (mIfS (mBool (mOp eqF (mVar 0) (mVal (mLst mNilA)))) (mRet (mC (.int 0))) mNext)
  (mRet (mOp addF (mOp mulF (mOp ixF (mVar 0) (mOp modF (mVar 1) (mCall (lift1 lenG) (mSeqA (mVar 0) mNilA)))) (mC (.int 31))) (mVar 1)))))
noncomputable def B__law_cell_at : FV := runB 2 2 m__law_cell_at
theorem ref__law_cell_at : Refines F__law_cell_at B__law_cell_at := ref_res fun args st k1 k2 hq => by
  unfold F__law_cell_at at hq
  split at hq
  · rename_i vs k
    cases hi : intsOf vs with
    | none => rw [hi] at hq; exact absurd rfl hq
    | some ns =>
      have := intsOf_eq hi
      subst this
      rw [hi] at hq
      dsimp only at hq
      by_cases h0 : 0 ≤ k
      · obtain ⟨k, rfl⟩ := Int.eq_ofNat_of_zero_le h0
        refine ⟨.int (cellAt ns k), st, by simp [F__law_cell_at], ?_, .inl rfl, .int _⟩
        rw [B__law_cell_at, m__law_cell_at]
        by_cases hk : k < ns.length
        · have h1 : ((k : Nat) : Int) < ns.length := by omega
          have h2 : atI (ns.map Val.int) (k : Nat) = some (.int (cellAt ns k)) := by
            simp [atI, ixN, h1, cellAt, List.getElem?_eq_getElem hk]
          simp [ltF, lenG, seqOf, h1, ixF, h2]
        · have h1 : ¬ ((k : Nat) : Int) < ns.length := by omega
          have he : ∀ st : Sto, eqF (.rol (ns.map Val.int)) (.lst []) st = .ok (.bl (decide (ns = []))) st := fun st => eqF_rol_nil ns
          by_cases hn : ns = []
          · subst hn
            have h1 : ¬ ((k : Nat) : Int) < 0 := by omega
            simp [ltF, h1, lenG, seqOf, cellAt, eqF_rol_nil0, isLD, Val.ofCell]
          · have hp : 0 < ns.length := List.length_pos_iff.mpr hn
            have hm : k % ns.length < ns.length := Nat.mod_lt _ hp
            have h3 : (0 : Int) < ns.length := by omega
            have h2 : atI (ns.map Val.int) ((k : Int) % (ns.length : Int)) = some (.int (ns[k % ns.length]?.getD 0)) := by
              rw [show ((k : Int) % (ns.length : Int)) = ((k % ns.length : Nat) : Int) by simp]
              have : ((k % ns.length : Nat) : Int) < ns.length := by omega
              simp only [atI, ixN, List.length_map]
              rw [if_pos (by omega), if_pos this]
              simp only [Option.bind, Int.toNat_natCast, List.getElem?_map, List.getElem?_eq_getElem hm, Option.map, Option.getD]
            have h4 : ns[k]? = none := List.getElem?_eq_none (by omega)
            simp [ltF, lenG, seqOf, h1, he, hn, isLD, Val.ofCell, ixF, modF, h3, hp, h2, mulF, addF, cellAt, h4]
      · rw [if_neg h0] at hq
        exact absurd rfl hq
  · exact absurd rfl hq
/-! _law_mixed -/
theorem sc__law_mixed : FnScope ["_law_script", "_law_k", "_law_many", "_law_drawn"] ["_law_script", "_law_k", "_law_many"] (defScope s__law_mixed) := ⟨rfl, rfl, rfl, by decide +kernel, rfl, by decide +kernel, by decide +kernel⟩
noncomputable def m__law_mixed : MS := (mSeq (mSet 3 (mOp modF (mOp mulF (mOp addF (mOp addF (mCall F__law_cell_at (mSeqA (mVar 0) (mSeqA (mVar 1) mNilA))) (mOp mulF (mC (.int 7919)) (mVar 1))) (mC (.int 1))) (mC (.int 48271))) (mC (.int 2147483647))))
  (mRet (mOp modF (mOp modF (mOp addF (mOp addF (mOp mulF (mVar 3) (mVar 3)) (mOp mulF (mC (.int 7)) (mVar 3))) (mVar 1)) (mC (.int 2147483629))) (mVar 2))))
noncomputable def B__law_mixed : FV := runB 3 4 m__law_mixed
theorem ref__law_mixed : Refines F__law_mixed B__law_mixed := ref_res fun args st k1 k2 hq => by
  unfold F__law_mixed at hq
  split at hq
  · rename_i vs k m
    cases hi : intsOf vs with
    | none => rw [hi] at hq; exact absurd rfl hq
    | some ns =>
      have := intsOf_eq hi
      subst this
      rw [hi] at hq
      dsimp only at hq
      by_cases h0 : 0 ≤ k ∧ 0 < m
      · obtain ⟨k, rfl⟩ := Int.eq_ofNat_of_zero_le h0.1
        have hm := h0.2
        refine ⟨.int (mixed ns k m), st, by simp [F__law_mixed, hm], ?_, .inl rfl, .int _⟩
        rw [B__law_mixed, m__law_mixed]
        have hc : F__law_cell_at [.rol (ns.map Val.int), .int (k : Nat)] st = .ok (.int (cellAt ns k)) st := by simp [F__law_cell_at]
        have hz := Int.emod_nonneg ((cellAt ns k + 7919 * (k : Int) + 1) * 48271) (b := 2147483647) (by decide)
        have hz2 := Int.emod_lt_of_pos ((cellAt ns k + 7919 * (k : Int) + 1) * 48271) (b := 2147483647) (by decide)
        have hz3 : -18446744073709551616 < (cellAt ns k + 7919 * (k : Int) + 1) * 48271 % 2147483647 ∧ (cellAt ns k + 7919 * (k : Int) + 1) * 48271 % 2147483647 < 18446744073709551616 := by omega
        simp [hc, hz3, hm, mixed]
      · rw [if_neg h0] at hq
        exact absurd rfl hq
  · exact absurd rfl hq
/-! _law_draw -/
theorem sc__law_draw : FnScope ["_law_script", "_law_town", "_law_many"] ["_law_script", "_law_town", "_law_many"] (defScope s__law_draw) := ⟨rfl, rfl, rfl, by decide +kernel, rfl, by decide +kernel, by decide +kernel⟩
noncomputable def m__law_draw : MS := (mSeq (mDrop (mMeth chkL appendF (mVar 1) (mSeqA (mC (.int 0)) mNilA)))
  (mRet (mCall F__law_mixed (mSeqA (mVar 0) (mSeqA (mCall (lift1 lenG) (mSeqA (mVar 1) mNilA)) (mSeqA (mVar 2) mNilA))))))
noncomputable def B__law_draw : FV := runB 3 3 m__law_draw
theorem ref__law_draw : Refines F__law_draw B__law_draw := ref_res fun args st k1 k2 hq => by
  unfold F__law_draw at hq
  split at hq
  · rename_i vs l m
    cases hi : intsOf vs with
    | none => rw [hi] at hq; exact absurd rfl hq
    | some ns =>
      have := intsOf_eq hi
      subst this
      rw [hi] at hq
      cases hl : lstAt st l with
      | none => rw [hl] at hq; exact absurd rfl hq
      | some ws =>
        rw [hl] at hq
        dsimp only at hq
        by_cases h0 : 0 < m ∧ ws.length < 1000000
        · have hm := h0.1
          have hw := h0.2
          have hs := lstAt_eq hl
          have hlt := (List.getElem?_eq_some_iff.mp hs).1
          have hz : ws.length < sizeLine := by have : sizeLine = 2 ^ 24 := rfl; omega
          have hx : F__law_mixed [.rol (ns.map Val.int), .int ((ws.length : Int) + 1), .int m] (st.set l (.lst (ws ++ [.int 0]))) = .ok (.int (mixed ns (ws.length + 1) m)) (st.set l (.lst (ws ++ [.int 0]))) := by
            unfold F__law_mixed
            simp only [intsOf_map]
            rw [if_pos ⟨by omega, hm⟩]
            rfl
          refine ⟨.int (mixed ns (ws.length + 1) m), st.set l (.lst (ws ++ [.int 0])), by simp [F__law_draw, hl, h0], ?_, .inr ⟨l, 1, ws, 1, Nat.le_refl _, hs, rfl⟩, .int _⟩
          rw [B__law_draw, m__law_draw]
          simp [chkL, readL, hl, appendF, hz, lenG, seqOf, lstAt_set hlt, hx]
        · rw [if_neg h0] at hq
          exact absurd rfl hq
  · exact absurd rfl hq
/-! _law_pick -/
theorem sc__law_pick : FnScope ["_law_script", "_law_town", "_law_some"] ["_law_script", "_law_town", "_law_some"] (defScope s__law_pick) := ⟨rfl, rfl, rfl, by decide +kernel, rfl, by decide +kernel, by decide +kernel⟩
noncomputable def m__law_pick : MS := (mRet (mOp ixF (mVar 2) (mCall F__law_draw (mSeqA (mVar 0) (mSeqA (mVar 1) (mSeqA (mCall (lift1 lenG) (mSeqA (mVar 2) mNilA)) mNilA))))))
noncomputable def B__law_pick : FV := runB 3 3 m__law_pick
theorem ref__law_pick : Refines F__law_pick B__law_pick := ref_res fun args st k1 k2 hq => by
  unfold F__law_pick at hq
  split at hq
  · rename_i vs l us
    split at hq
    · rename_i i st1 hd
      cases hu : us[i.toNat]? with
      | none => rw [hu] at hq; exact absurd rfl hq
      | some u =>
        have hd0 := hd
        obtain ⟨ns, ws, e1, hs, hp, hw, e3, rfl⟩ := draw_eq hd
        cases e3
        have hm := mixed_lt ns (ws.length + 1) hp
        refine ⟨u, _, by simp [F__law_pick, hd0, hu], ?_, .inr ⟨l, 1, ws, 1, Nat.le_refl _, hs, rfl⟩, ?_⟩
        · have ha : atI us (mixed ns (ws.length + 1) us.length) = some u := by
            simp only [atI, ixN]
            rw [if_pos hm.1, if_pos hm.2]
            exact hu
          rw [B__law_pick, m__law_pick]
          simp [lenG, seqOf, hd0, ixF, ha]
        · cases k2 with
          | cons _ k2 => cases k2 with
            | cons _ k2 => cases k2 with
              | cons a _ => cases a with
                | lst a => exact cl_get a hu
    · exact absurd rfl hq
  · rename_i vs l us
    split at hq
    · rename_i i st1 hd
      cases hu : us[i.toNat]? with
      | none => rw [hu] at hq; exact absurd rfl hq
      | some u =>
        have hd0 := hd
        obtain ⟨ns, ws, e1, hs, hp, hw, e3, rfl⟩ := draw_eq hd
        cases e3
        have hm := mixed_lt ns (ws.length + 1) hp
        refine ⟨u, _, by simp [F__law_pick, hd0, hu], ?_, .inr ⟨l, 1, ws, 1, Nat.le_refl _, hs, rfl⟩, ?_⟩
        · have ha : atI us (mixed ns (ws.length + 1) us.length) = some u := by
            simp only [atI, ixN]
            rw [if_pos hm.1, if_pos hm.2]
            exact hu
          rw [B__law_pick, m__law_pick]
          simp [lenG, seqOf, hd0, ixF, ha]
        · cases k2 with
          | cons _ k2 => cases k2 with
            | cons _ k2 => cases k2 with
              | cons a _ => cases a with
                | tup a => exact cl_get a hu
    · exact absurd rfl hq
  · exact absurd rfl hq
/-! _law_die -/
theorem sc__law_die : FnScope ["_law_script", "_law_town", "_law_faces", "_law_most", "_law_low", "_law_wide", "_law_made", "_law_k"] ["_law_script", "_law_town", "_law_faces", "_law_most"] (defScope s__law_die) := ⟨rfl, rfl, rfl, by decide +kernel, rfl, by decide +kernel, by decide +kernel⟩
noncomputable def m__law_die : MS := (mSeq (mSet 4 (mCall F__law_pick (mSeqA (mVar 0) (mSeqA (mVar 1) (mSeqA (mVal (mLst (mSeqA (mC (.int 0)) (mSeqA (mC (.int 0)) (mSeqA (mC (.int 1)) (mSeqA (mC (.int 1)) (mSeqA (mCall F__law_draw (mSeqA (mVar 0) (mSeqA (mVar 1) (mSeqA (mC (.int 20)) mNilA)))) mNilA))))))) mNilA)))))
  (mSeq (mSet 5 (mCall F__law_pick (mSeqA (mVar 0) (mSeqA (mVar 1) (mSeqA (mVal (mLst (mSeqA (mC (.int 1)) (mSeqA (mC (.int 3)) (mSeqA (mC (.int 6)) (mSeqA (mC (.int 12)) mNilA)))))) mNilA)))))
  (mSeq (mSet 6 (mVal (mComp (mRng1 (mVar 2)) (Tg.name 7) mTrue (mCall min2F (mSeqA (mVar 3) (mSeqA (mOp addF (mVar 4) (mCall F__law_draw (mSeqA (mVar 0) (mSeqA (mVar 1) (mSeqA (mVar 5) mNilA))))) mNilA))) [7])))
  (mRet (mCall (lift1 tupG) (mSeqA (mCall (lift1 sortG) (mSeqA (mVar 6) mNilA)) mNilA))))))
noncomputable def B__law_die : FV := runB 4 8 m__law_die
def ok__law_die (args : List Val) (st : Sto) : Prop := ∃ (ns : List Int) (l : Nat) (m q : Int), args = [.rol (ns.map Val.int), .ref l, .int m, .int q] ∧ Town st l 11 ∧ 1 ≤ m ∧ m ≤ 8 ∧ 0 ≤ q ∧ q ≤ 30
theorem die_B {ns : List Int} {st : Sto} {l n : Nat} {m q : Int} (T : Town st l (n + 11)) (h1 : 1 ≤ m) (h2 : m ≤ 8) (hq0 : 0 ≤ q) (hq : q ≤ 30) : ∃ ds st1, dieN ds = true ∧ ds.length = m.toNat ∧ (∀ x ∈ ds, x ≤ q) ∧ B__law_die [.rol (ns.map Val.int), .ref l, .int m, .int q] st = .ok (vI ds) st1 ∧ Drawn l 11 st st1 ∧ Town st1 l n := by
  obtain ⟨z, s0, z1, z2, z3, z4, z5⟩ := draw_ok (ns := ns) (n := n + 10) (m := 20) T (by decide)
  obtain ⟨i, u, s1, p1, p2, p3, p4⟩ := pick_ok (ns := ns) (n := n + 9) (us := [.int 0, .int 0, .int 1, .int 1, .int z]) z5 (by simp)
  have hu : ∃ w : Int, u = .int w ∧ 0 ≤ w ∧ w ≤ 19 := by
    have := List.mem_of_getElem? p1
    simp only [List.mem_cons, List.not_mem_nil, or_false] at this
    rcases this with h | h | h | h | h <;> exact ⟨_, h, by omega, by omega⟩
  obtain ⟨lo, rfl, w1, w2⟩ := hu
  obtain ⟨i2, u2, s2, q1, q2, q3, q4⟩ := pick_ok (ns := ns) (n := n + 8) (us := [.int 1, .int 3, .int 6, .int 12]) p4 (by simp)
  have hu2 : ∃ w : Int, u2 = .int w ∧ 1 ≤ w ∧ w ≤ 12 := by
    have := List.mem_of_getElem? q1
    simp only [List.mem_cons, List.not_mem_nil, or_false] at this
    rcases this with h | h | h | h <;> exact ⟨_, h, by omega, by omega⟩
  obtain ⟨w, rfl, w3, w4⟩ := hu2
  obtain ⟨k, rfl⟩ := Int.eq_ofNat_of_zero_le (show 0 ≤ m by omega)
  obtain ⟨ys, s4, e1, e2, e3, e4⟩ := comp_draws (t := Tg.name 7) (cond := mTrue) (elt := mCall min2F (mSeqA (mVar 3) (mSeqA (mOp addF (mVar 4) (mCall F__law_draw (mSeqA (mVar 0) (mSeqA (mVar 1) (mSeqA (mVar 5) mNilA))))) mNilA)))
    (ρ := [some (.rol (ns.map Val.int)), some (.ref l), some (.int (k : Nat)), some (.int q), some (.int lo), some (.int w), none, none]) (l := l) (K := 1) (P := fun v => ∃ z : Int, v = .int z ∧ 0 ≤ z ∧ z ≤ q)
    (fun v st T => by
      obtain ⟨i, s, r1, r2, r3, r4, r5⟩ := draw_ok (ns := ns) (n := 0) (m := w) T (by omega)
      exact ⟨_, rfl, rfl, .int (min q (lo + i)), s, by simp [r3], r4, _, rfl, by omega, by omega⟩) (rng 0 ((k : Int)).toNat) [] s2 (q4.mono (by simp [rng]; omega))
  have hlen : ys.length = k := by rw [e2]; simp [rng]
  obtain ⟨zs, rfl, hz⟩ : ∃ zs : List Int, ys = zs.map Val.int ∧ ∀ z ∈ zs, 0 ≤ z ∧ z ≤ q := by
    clear e1 e2 hlen
    induction ys with
    | nil => exact ⟨[], rfl, fun _ h => nomatch h⟩
    | cons y ys ih =>
      obtain ⟨z, rfl, h1, h2⟩ := e4 y List.mem_cons_self
      obtain ⟨zs, rfl, h3⟩ := ih fun v hv => e4 v (List.mem_cons_of_mem _ hv)
      refine ⟨z :: zs, rfl, fun x hx => ?_⟩
      rcases List.mem_cons.mp hx with rfl | hx
      · exact ⟨h1, h2⟩
      · exact h3 x hx
  rw [List.length_map] at hlen
  have d3 : Drawn l 11 st s4 := (((z4.trans p3).trans q3).trans e3).mono (by simp [rng]; omega)
  refine ⟨sortI zs, s4, dieN_iff.mpr ⟨by simp; omega, by simp; omega, fun x hx => by have := hz x (mem_sortI.mp hx); omega, sortI_sorted zs⟩, by simp; omega, fun x hx => (hz x (mem_sortI.mp hx)).2, ?_, d3, d3.town T (by omega)⟩
  have r1 : (-1000000 : Int) ≤ k ∧ (k : Int) ≤ 1000000 := by omega
  rw [Int.toNat_natCast] at e1
  rw [B__law_die, m__law_die]
  simp [isLD, Val.ofCell, sizeLine, p2, q2, z3, r1, wipeR, e1, seqOf, sortG, sortOk_ints, sortV_ints, tupG, -List.map_map]
noncomputable def F__law_die : FV := guardF ok__law_die B__law_die
theorem ref__law_die : Refines F__law_die B__law_die := ref_guard fun args st k1 k2 ⟨ns, l, m, q, e, T, h1, h2, h3, h4⟩ => by
  subst e
  obtain ⟨ds, st1, a1, a2, a0, a3, a4, a5⟩ := die_B (ns := ns) (n := 0) T h1 h2 h3 h4
  exact ⟨_, st1, l, 11, a3, a4, .tup (cl_ints _)⟩
theorem die_ok {ns : List Int} {st : Sto} {l n : Nat} {m q : Int} (T : Town st l (n + 11)) (h1 : 1 ≤ m) (h2 : m ≤ 8) (hq0 : 0 ≤ q) (hq : q ≤ 30) : ∃ ds st1, dieN ds = true ∧ ds.length = m.toNat ∧ (∀ x ∈ ds, x ≤ q) ∧ F__law_die [.rol (ns.map Val.int), .ref l, .int m, .int q] st = .ok (vI ds) st1 ∧ Drawn l 11 st st1 ∧ Town st1 l n := by
  obtain ⟨ds, st1, a1, a2, a0, a3, a4, a5⟩ := die_B (ns := ns) (n := n) T h1 h2 hq0 hq
  exact ⟨ds, st1, a1, a2, a0, (guardF_of ⟨ns, l, m, q, rfl, T.mono (by omega), h1, h2, hq0, hq⟩).trans a3, a4, a5⟩
/-! _law_dice -/
theorem sc__law_dice : FnScope ["_law_script", "_law_town", "_law_many", "_law_faces", "_law_k"] ["_law_script", "_law_town", "_law_many", "_law_faces"] (defScope s__law_dice) := ⟨rfl, rfl, rfl, by decide +kernel, rfl, by decide +kernel, by decide +kernel⟩
noncomputable def m__law_dice : MS := (mRet (mCall (lift1 tupG) (mSeqA (mVal (mComp (mRng1 (mVar 2)) (Tg.name 4) mTrue (mCall F__law_die (mSeqA (mVar 0) (mSeqA (mVar 1) (mSeqA (mOp addF (mC (.int 1)) (mCall F__law_draw (mSeqA (mVar 0) (mSeqA (mVar 1) (mSeqA (mVar 3) mNilA))))) (mSeqA (mC (.int 30)) mNilA))))) [4])) mNilA)))
noncomputable def B__law_dice : FV := runB 4 5 m__law_dice
theorem dice_B {ns : List Int} {st : Sto} {l n : Nat} {m q : Int} (T : Town st l (n + 48)) (h1 : 1 ≤ m) (h2 : m ≤ 4) (h3 : 1 ≤ q) (h4 : q ≤ 8) : ∃ ds st1, diceN ds ∧ ds.length = m.toNat ∧ (∀ d ∈ ds, d.length ≤ q) ∧ B__law_dice [.rol (ns.map Val.int), .ref l, .int m, .int q] st = .ok (vD ds) st1 ∧ Drawn l 48 st st1 ∧ Town st1 l n := by
  obtain ⟨k, rfl⟩ := Int.eq_ofNat_of_zero_le (show 0 ≤ m by omega)
  obtain ⟨ys, s2, e1, e2, e3, e4⟩ := comp_draws (t := Tg.name 4) (cond := mTrue) (elt := mCall F__law_die (mSeqA (mVar 0) (mSeqA (mVar 1) (mSeqA (mOp addF (mC (.int 1)) (mCall F__law_draw (mSeqA (mVar 0) (mSeqA (mVar 1) (mSeqA (mVar 3) mNilA))))) (mSeqA (mC (.int 30)) mNilA)))))
    (ρ := [some (.rol (ns.map Val.int)), some (.ref l), some (.int (k : Nat)), some (.int q), none]) (l := l) (K := 12) (P := fun v => ∃ d : List Int, v = vI d ∧ dieN d = true ∧ d.length ≤ q)
    (fun v st T => by
      obtain ⟨j, s0, r1, r2, r3, r4, r5⟩ := draw_ok (ns := ns) (n := 11) (m := q) T (by omega)
      obtain ⟨d, s, t1, t2, t0, t3, t4, t5⟩ := die_ok (ns := ns) (n := 0) (m := 1 + j) (q := 30) r5 (by omega) (by omega) (by decide) (by decide)
      exact ⟨_, rfl, rfl, vI d, s, by simp [r3, t3], (r4.trans t4).mono (by omega), d, rfl, t1, by omega⟩) (rng 0 ((k : Int)).toNat) [] st (T.mono (by simp [rng]; omega))
  have hlen : ys.length = k := by rw [e2]; simp [rng]
  obtain ⟨ds, rfl, hz⟩ : ∃ ds : List (List Int), ys = ds.map vI ∧ ∀ d ∈ ds, dieN d = true ∧ d.length ≤ q := by
    clear e1 e2 hlen
    induction ys with
    | nil => exact ⟨[], rfl, fun _ h => nomatch h⟩
    | cons y ys ih =>
      obtain ⟨d, rfl, h1, h2⟩ := e4 y List.mem_cons_self
      obtain ⟨ds, rfl, h3⟩ := ih fun v hv => e4 v (List.mem_cons_of_mem _ hv)
      refine ⟨d :: ds, rfl, fun x hx => ?_⟩
      rcases List.mem_cons.mp hx with rfl | hx
      · exact ⟨h1, h2⟩
      · exact h3 x hx
  rw [List.length_map] at hlen
  have d3 : Drawn l 48 st s2 := e3.mono (by simp [rng]; omega)
  refine ⟨ds, s2, ⟨by omega, by omega, fun d hd => (hz d hd).1⟩, by omega, fun d hd => (hz d hd).2, ?_, d3, d3.town T (by omega)⟩
  have r1 : (-1000000 : Int) ≤ k ∧ (k : Int) ≤ 1000000 := by omega
  rw [Int.toNat_natCast] at e1
  rw [B__law_dice, m__law_dice]
  simp [isLD, Val.ofCell, r1, wipeR, e1, seqOf, tupG]
noncomputable def F__law_dice : FV := guardF (fun args st => ∃ (ns : List Int) (l : Nat) (m q : Int), args = [.rol (ns.map Val.int), .ref l, .int m, .int q] ∧ Town st l 48 ∧ 1 ≤ m ∧ m ≤ 4 ∧ 1 ≤ q ∧ q ≤ 8) B__law_dice
theorem ref__law_dice : Refines F__law_dice B__law_dice := ref_guard fun args st k1 k2 ⟨ns, l, m, q, e, T, h1, h2, h3, h4⟩ => by
  subst e
  obtain ⟨ds, st1, a1, a2, a3, a4, a5, a6⟩ := dice_B (ns := ns) (n := 0) T h1 h2 h3 h4
  exact ⟨_, st1, l, 48, a4, a5, .tup (cl_rows _)⟩
theorem dice_ok {ns : List Int} {st : Sto} {l n : Nat} {m q : Int} (T : Town st l (n + 48)) (h1 : 1 ≤ m) (h2 : m ≤ 4) (h3 : 1 ≤ q) (h4 : q ≤ 8) : ∃ ds st1, diceN ds ∧ ds.length = m.toNat ∧ (∀ d ∈ ds, d.length ≤ q) ∧ F__law_dice [.rol (ns.map Val.int), .ref l, .int m, .int q] st = .ok (vD ds) st1 ∧ Drawn l 48 st st1 ∧ Town st1 l n := by
  obtain ⟨ds, st1, a1, a2, a3, a4, a5, a6⟩ := dice_B (ns := ns) (n := n) T h1 h2 h3 h4
  exact ⟨ds, st1, a1, a2, a3, (guardF_of ⟨ns, l, m, q, rfl, T.mono (by omega), h1, h2, h3, h4⟩).trans a4, a5, a6⟩
/-! _law_ask -/
theorem sc__law_ask : FnScope ["_law_text", "_law_e"] ["_law_text"] (defScope s__law_ask) := ⟨rfl, rfl, rfl, by decide +kernel, rfl, by decide +kernel, by decide +kernel⟩
noncomputable def m__law_ask : MS := (mTry 1 idx (mRet (mCall F_read (mSeqA (mVar 0) mNilA))))
noncomputable def B__law_ask : FV := runB 1 2 m__law_ask
theorem idx5 : idx "NoText" = some 5 := by decide +kernel
abbrev refusedV (j : Nat) : Val := .tup [.str "refused", .int (j : Nat)]
def P__law_ask : List Val → Out
  | [.str x] => if x.length ≤ 1000000 ∧ PyData.strOk x = true then (match readC x.cps.toList with
    | some ds => .val (vD ds)
    | none => .val (refusedV 5)) else .no
  | [v] => if v.top = true then .val (refusedV 5) else .no
  | _ => .no
abbrev F__law_ask : FV := pureF P__law_ask
theorem ref__law_ask : Refines F__law_ask B__law_ask := ref_pure fun args st => by
  have cl : ∀ n, ClV n (refusedV 5) := fun n => .tup (.cons (.str _) (.cons (.int _) .nil))
  have ex : ∀ v, F_read [v] st = .exc "NoText" st → B__law_ask [v] st = .ok (refusedV 5) st := fun v e => by
    rw [B__law_ask, m__law_ask]
    refine run_ret rfl ?_
    show mTry _ _ _ [some v, none] st = _
    rw [mTry_ap, mRet_ap, mCall_ap]
    simp only [mSeqA_ap, mVar_ap, mNilA_ap, List.getElem?_cons_zero, e]
    rw [if_pos (by simp), idx5]
  unfold P__law_ask
  split
  · rename_i x
    by_cases hz : x.length ≤ 1000000 ∧ PyData.strOk x = true
    · rw [if_pos hz]
      cases hr : readC x.cps.toList with
      | none => exact .inr (.inl ⟨_, [], rfl, cl, by rw [List.append_nil]; exact ex _ (by simp only [pureF, P_read, if_pos hz, hr, Out.res])⟩)
      | some ds =>
        refine .inr (.inl ⟨_, [], rfl, fun _ => .tup (cl_rows ds), ?_⟩)
        have e : F_read [.str x] st = .ok (vD ds) st := by simp only [pureF, P_read, if_pos hz, hr, Out.res]
        rw [List.append_nil, B__law_ask, m__law_ask]
        refine run_ret rfl ?_
        show mTry _ _ _ [some (.str x), none] st = _
        rw [mTry_ap, mRet_ap, mCall_ap]
        simp only [mSeqA_ap, mVar_ap, mNilA_ap, List.getElem?_cons_zero, e]
    · exact .inl (if_neg hz)
  · rename_i v hv
    by_cases ht : v.top = true
    · rw [if_pos ht]
      refine .inr (.inl ⟨_, [], rfl, cl, ?_⟩)
      rw [List.append_nil]
      refine ex v ?_
      have : P_read [v] = .err "NoText" := by
        unfold P_read
        split
        · rename_i x e; cases e; exact absurd rfl (hv x)
        · rename_i w _ e; cases e; exact if_pos ht
        · rename_i h1 h2; exact absurd rfl (h2 v)
      simp only [pureF, this, Out.res]
    · exact .inl (if_neg ht)
  · exact .inl rfl
/-! _law_shown -/
theorem sc__law_shown : FnScope ["_law_dice_here", "_law_made", "_law_at", "_law_die_here", "_law_place", "_law_face"] ["_law_dice_here"] (defScope s__law_shown) := ⟨rfl, rfl, rfl, by decide +kernel, rfl, by decide +kernel, by decide +kernel⟩
noncomputable def m__law_shown : MS := (mSeq (mSet 1 (mC (.str "")))
  (mSeq (mFor (mEnumT (mVar 0)) (Tg.tup [2, 3]) (mSeq (mSet 1 (mOp addF (mVar 1) (mOp mulSF (mC (.str " ")) (mCall (lift1 intG) (mSeqA (mOp gtF (mVar 2) (mC (.int 0))) mNilA)))))
  (mFor (mEnumT (mVar 3)) (Tg.tup [4, 5]) (mSet 1 (mOp addF (mOp addF (mVar 1) (mOp mulSF (mC (.str ",")) (mCall (lift1 intG) (mSeqA (mOp gtF (mVar 4) (mC (.int 0))) mNilA)))) (mCall (lift1 strG) (mSeqA (mVar 5) mNilA)))))))
  (mRet (mVar 1))))
noncomputable def B__law_shown : FV := runB 1 6 m__law_shown
theorem join_snoc (s : List Nat) (p : List Nat) : ∀ ps : List (List Nat), TL.joinL s (ps ++ [p]) = TL.joinL s ps ++ ((if ps = [] then [] else s) ++ p)
  | [] => rfl
  | [q] => rfl
  | q :: r :: ps => by
    have := join_snoc s p (r :: ps)
    show q ++ (s ++ TL.joinL s ((r :: ps) ++ [p])) = q ++ (s ++ TL.joinL s (r :: ps)) ++ _
    rw [this]
    simp
theorem comma (n : Nat) (sep : Nat) (x : Str) (hx : x = SX.S [sep]) (st : Sto) (m : ME) (ρ : Rho) (hm : m ρ st = .ok (.int (n : Nat)) st) : mOp mulSF (mC (.str x)) (mCall (lift1 intG) (mSeqA (mOp gtF m (mC (.int 0))) mNilA)) ρ st = .ok (.str (SX.S (if n = 0 then [] else [sep]))) st := by
  have g : gtF (.int (n : Nat)) (.int 0) st = .ok (.bl (decide (((n : Nat) : Int) > 0))) st := rfl
  simp only [mOp_ap, mC_ap, mCall_ap, mSeqA_ap, hm, g, mNilA_ap, lift1_ap, intG]
  by_cases h : n = 0
  · subst h
    rw [if_pos rfl]
    rfl
  · rw [if_neg h, decide_eq_true (by omega), hx]
    rfl
theorem faces_loop (v0 v2 v3 : Option Val) (base : List Nat) (hb : base.length ≤ 1000) {st : Sto} : ∀ (rest done : List Int) (v4 v5 : Option Val), (∀ f ∈ done ++ rest, 0 ≤ f ∧ f ≤ 30) → done.length + rest.length ≤ 8 → ∃ v4' v5',
    loop (Tg.tup [4, 5]) (mSet 1 (mOp addF (mOp addF (mVar 1) (mOp mulSF (mC (.str ",")) (mCall (lift1 intG) (mSeqA (mOp gtF (mVar 4) (mC (.int 0))) mNilA)))) (mCall (lift1 strG) (mSeqA (mVar 5) mNilA)))) none (enumF done.length (rest.map Val.int))
      [v0, some (.str (SX.S (base ++ TL.joinL [44] (done.map faceC)))), v2, v3, v4, v5] st
      = .next [v0, some (.str (SX.S (base ++ TL.joinL [44] ((done ++ rest).map faceC)))), v2, v3, v4', v5'] st
  | [], done, v4, v5, _, _ => ⟨v4, v5, by rw [List.append_nil]; exact loop_nil (g := none) trivial⟩
  | f :: rest, done, v4, v5, hf, hl => by
    rw [List.length_cons] at hl
    obtain ⟨v4', v5', ih⟩ := faces_loop v0 v2 v3 base hb rest (done ++ [f]) (some (.int (done.length : Nat))) (some (.int f)) (by simpa using hf) (by simp; omega)
    refine ⟨v4', v5', ?_⟩
    have hff := hf f (by simp)
    rw [List.map_cons, enumF]
    have e1 : done ++ f :: rest = (done ++ [f]) ++ rest := by simp
    rw [e1]
    have hdl : (done ++ [f]).length = done.length + 1 := by simp
    rw [hdl] at ih
    refine (loop_cons (g := none) (ρ' := [v0, some (.str (SX.S (base ++ TL.joinL [44] (done.map faceC)))), v2, v3, some (.int (done.length : Nat)), some (.int f)]) trivial rfl ?_).trans ih
    have cm := comma done.length 44 "," (by decide +kernel) st (mVar 4) [v0, some (.str (SX.S (base ++ TL.joinL [44] (done.map faceC)))), v2, v3, some (.int (done.length : Nat)), some (.int f)] rfl
    have sg : strG (.int f) st = some (.str (SX.S (faceC f))) := by
      obtain ⟨n, rfl⟩ := Int.eq_ofNat_of_zero_le hff.1
      unfold strG
      dsimp only
      rw [if_pos ⟨by omega, by omega⟩]
      congr 2
      exact SX.num_S n
    have hz : sizeLine = 2 ^ 24 := rfl
    have h1 : (TL.joinL [44] (done.map faceC)).length ≤ 100 := by
      have a1 := join_len [44] (done.map faceC)
      have a2 : ((done.map faceC).map (·.length)).sum ≤ 16 := by
        refine Nat.le_trans (sum_le_len (b := 2) fun x hx => ?_) ?_
        · obtain ⟨p, hp, rfl⟩ := List.mem_map.mp hx
          obtain ⟨g, hg, rfl⟩ := List.mem_map.mp hp
          have := hf g (List.mem_append_left _ hg)
          exact face_len this.1 this.2
        · rw [List.length_map, List.length_map]; omega
      rw [List.length_map, List.length_singleton] at a1
      omega
    have h2 : (faceC f).length ≤ 2 := face_len hff.1 hff.2
    have h3 : (if done.length = 0 then [] else [44]).length ≤ 1 := by split <;> simp
    have ad1 : addF (.str (SX.S (base ++ TL.joinL [44] (done.map faceC)))) (.str (SX.S (if done.length = 0 then [] else [44]))) st = .ok (.str (SX.S (base ++ TL.joinL [44] (done.map faceC) ++ (if done.length = 0 then [] else [44])))) st := by
      unfold addF
      dsimp only
      rw [SX.S_len, SX.S_len, if_pos (by rw [List.length_append]; omega), SX.S_cat]
    have ad2 : addF (.str (SX.S (base ++ TL.joinL [44] (done.map faceC) ++ (if done.length = 0 then [] else [44])))) (.str (SX.S (faceC f))) st = .ok (.str (SX.S (base ++ TL.joinL [44] ((done ++ [f]).map faceC)))) st := by
      unfold addF
      dsimp only
      rw [SX.S_len, SX.S_len, if_pos (by rw [List.length_append, List.length_append]; omega), SX.S_cat]
      rw [List.map_append, List.map_singleton, join_snoc]
      have e : (done.map faceC = []) = (done.length = 0) := by rw [List.map_eq_nil_iff, List.length_eq_zero_iff]
      simp only [e, List.append_assoc]
    rw [mSet_ap, mOp_ap, mOp_ap, mVar_ap]
    simp only [List.getElem?_cons_succ, List.getElem?_cons_zero, cm, ad1, mCall_ap, mSeqA_ap, mVar_ap, mNilA_ap, lift1_ap, sg, ad2, List.set_cons_succ, List.set_cons_zero]
theorem dice_loop (v0 : Option Val) {st : Sto} : ∀ (rest done : List (List Int)) (v2 v3 v4 v5 : Option Val), (∀ d ∈ done ++ rest, dieN d = true) → done.length + rest.length ≤ 4 → ∃ v2' v3' v4' v5',
    loop (Tg.tup [2, 3]) (mSeq (mSet 1 (mOp addF (mVar 1) (mOp mulSF (mC (.str " ")) (mCall (lift1 intG) (mSeqA (mOp gtF (mVar 2) (mC (.int 0))) mNilA)))))
  (mFor (mEnumT (mVar 3)) (Tg.tup [4, 5]) (mSet 1 (mOp addF (mOp addF (mVar 1) (mOp mulSF (mC (.str ",")) (mCall (lift1 intG) (mSeqA (mOp gtF (mVar 4) (mC (.int 0))) mNilA)))) (mCall (lift1 strG) (mSeqA (mVar 5) mNilA)))))) none (enumF done.length (rest.map vI))
      [v0, some (.str (SX.S (diceC done))), v2, v3, v4, v5] st
      = .next [v0, some (.str (SX.S (diceC (done ++ rest)))), v2', v3', v4', v5'] st
  | [], done, v2, v3, v4, v5, _, _ => ⟨v2, v3, v4, v5, by rw [List.append_nil]; exact loop_nil (g := none) trivial⟩
  | d :: rest, done, v2, v3, v4, v5, hd, hl => by
    rw [List.length_cons] at hl
    have hdie := dieN_iff.mp (hd d (by simp))
    have hz : sizeLine = 2 ^ 24 := rfl
    have h1 : (diceC done).length ≤ 200 := by
      have a1 := join_len [32] (done.map dieC)
      have a2 : ((done.map dieC).map (·.length)).sum ≤ 96 := by
        refine Nat.le_trans (sum_le_len (b := 24) fun x hx => ?_) ?_
        · obtain ⟨p, hp, rfl⟩ := List.mem_map.mp hx
          obtain ⟨g, hg, rfl⟩ := List.mem_map.mp hp
          exact die_len (hd g (List.mem_append_left _ hg))
        · rw [List.length_map, List.length_map]; omega
      rw [List.length_map, List.length_singleton] at a1
      unfold diceC
      omega
    have h3 : (if done.length = 0 then [] else [32]).length ≤ 1 := by split <;> simp
    obtain ⟨a4, a5, e2⟩ := faces_loop v0 (some (.int (done.length : Nat))) (some (vI d)) (diceC done ++ (if done.length = 0 then [] else [32])) (by rw [List.length_append]; omega) (st := st) d [] v4 v5 (by simpa using hdie.2.2.1) (by simp; omega)
    obtain ⟨v2', v3', v4', v5', ih⟩ := dice_loop v0 (st := st) rest (done ++ [d]) (some (.int (done.length : Nat))) (some (vI d)) a4 a5 (by simpa using hd) (by simp; omega)
    refine ⟨v2', v3', v4', v5', ?_⟩
    rw [List.map_cons, enumF]
    have e1 : done ++ d :: rest = (done ++ [d]) ++ rest := by simp
    rw [e1]
    have hdl : (done ++ [d]).length = done.length + 1 := by simp
    rw [hdl] at ih
    refine (loop_cons (g := none) (ρ' := [v0, some (.str (SX.S (diceC done))), some (.int (done.length : Nat)), some (vI d), v4, v5]) trivial rfl ?_).trans ih
    have cm := comma done.length 32 " " (by decide +kernel) st (mVar 2) [v0, some (.str (SX.S (diceC done))), some (.int (done.length : Nat)), some (vI d), v4, v5] rfl
    have ad : addF (.str (SX.S (diceC done))) (.str (SX.S (if done.length = 0 then [] else [32]))) st = .ok (.str (SX.S (diceC done ++ (if done.length = 0 then [] else [32])))) st := by
      unfold addF
      dsimp only
      rw [SX.S_len, SX.S_len, if_pos (by omega), SX.S_cat]
    refine st_set (v := .str (SX.S (diceC done ++ (if done.length = 0 then [] else [32])))) (st1 := st) ?_ ?_
    · rw [mOp_ap, mVar_ap]
      simp only [List.getElem?_cons_succ, List.getElem?_cons_zero, cm, ad]
    · have en : mEnumT (mVar 3) [v0, some (.str (SX.S (diceC done ++ (if done.length = 0 then [] else [32])))), some (.int (done.length : Nat)), some (vI d), v4, v5] st = .ok ⟨enumF 0 (d.map Val.int), none⟩ st := by
        unfold mEnumT
        simp only [mVar_ap, List.getElem?_cons_succ, List.getElem?_cons_zero, Res.bind, enumIt]
      have e3 : diceC (done ++ [d]) = diceC done ++ (if done.length = 0 then [] else [32]) ++ dieC d := by
        unfold diceC
        rw [List.map_append, List.map_singleton, join_snoc]
        have e : (done.map dieC = []) = (done.length = 0) := by rw [List.map_eq_nil_iff, List.length_eq_zero_iff]
        simp only [e, List.append_assoc]
      show mFor _ _ _ [v0, some (.str (SX.S (diceC done ++ (if done.length = 0 then [] else [32])))), some (.int (done.length : Nat)), some (vI d), v4, v5] st = _
      rw [mFor_ap, en]
      dsimp only
      have e2' := e2
      rw [List.map_nil, List.nil_append, show TL.joinL [44] [] = [] from rfl, List.append_nil, List.length_nil] at e2'
      rw [e2', e3]
      rfl
def P__law_shown : List Val → Out
  | [v] => match diceOf v with
    | some ds => .val (.str (SX.S (diceC ds)))
    | none => .no
  | _ => .no
abbrev F__law_shown : FV := pureF P__law_shown
theorem ref__law_shown : Refines F__law_shown B__law_shown := ref_pure fun args st => by
  unfold P__law_shown
  split
  · rename_i v
    cases hd : diceOf v with
    | none => exact .inl rfl
    | some ds =>
      obtain ⟨rfl, hn⟩ := diceOf_eq hd
      refine .inr (.inl ⟨_, [], rfl, fun _ => .str _, ?_⟩)
      obtain ⟨a2, a3, a4, a5, e⟩ := dice_loop (some (vD ds)) (st := st) ds [] none none none none (by simpa using hn.2.2) (by simp; exact hn.2.1)
      rw [List.append_nil, B__law_shown, m__law_shown]
      have e0 : ("" : Str) = SX.S (diceC []) := by decide +kernel
      refine run_ret rfl (st_set (v := .str (SX.S (diceC []))) (st1 := st) (by rw [← e0]; rfl) ?_)
      refine st_go (ρ1 := [some (vD ds), some (.str (SX.S (diceC ds))), a2, a3, a4, a5]) (st1 := st) ?_ (st_ret rfl)
      have en : mEnumT (mVar 0) [some (vD ds), some (.str (SX.S (diceC []))), none, none, none, none] st = .ok ⟨enumF 0 (ds.map vI), none⟩ st := by
        unfold mEnumT
        simp only [mVar_ap, List.getElem?_cons_zero, Res.bind, enumIt]
      show mFor _ _ _ [some (vD ds), some (.str (SX.S (diceC []))), none, none, none, none] st = _
      rw [mFor_ap, en]
      exact e
  · exact .inl rfl
/-! law -/
theorem sc_law : FnScope ["_law_script", "_law_town", "_law_dice_here", "_law_text", "_law_at", "_law_sign", "_law_spoilt", "_law_found", "_law_good", "_law_word", "_law_die_here", "_law_known", "_law_fits", "_law_numbers", "_law_odd", "_law_face", "_law_count_of"] ["_law_script"] (defScope s_law) := ⟨rfl, rfl, rfl, by decide +kernel, rfl, by decide +kernel, by decide +kernel⟩
noncomputable def m_law : MS := (mSeq (mSet 1 (mNew (mLst mNilA)))
  (mSeq (mSet 2 (mCall F__law_dice (mSeqA (mVar 0) (mSeqA (mVar 1) (mSeqA (mOp addF (mC (.int 1)) (mCall F__law_draw (mSeqA (mVar 0) (mSeqA (mVar 1) (mSeqA (mC (.int 4)) mNilA))))) (mSeqA (mC (.int 8)) mNilA))))))
  (mSeq (mSet 3 (mCall F_shown (mSeqA (mVar 2) mNilA)))
  (mSeq (mIfS (mOr (mBool (mOp neF (mVar 3) (mCall F__law_shown (mSeqA (mVar 2) mNilA)))) (mBool (mOp neF (mCall F__law_ask (mSeqA (mVar 3) mNilA)) (mVar 2)))) (mRet (mC (.bl false))) mNext)
  (mSeq (mSet 4 (mCall F__law_draw (mSeqA (mVar 0) (mSeqA (mVar 1) (mSeqA (mOp addF (mCall (lift1 lenG) (mSeqA (mVar 3) mNilA)) (mC (.int 1))) mNilA)))))
  (mSeq (mSet 5 (mCall F__law_pick (mSeqA (mVar 0) (mSeqA (mVar 1) (mSeqA (mVal (mLst (mSeqA (mC (.str "")) (mSeqA (mC (.str "0")) (mSeqA (mC (.str "1")) (mSeqA (mC (.str "9")) (mSeqA (mC (.str ",")) (mSeqA (mC (.str " ")) (mSeqA (mC (.str "-")) (mSeqA (mC (.str "a")) (mSeqA (mC (.str "\n")) (mSeqA (mC (.str ".")) mNilA)))))))))))) mNilA)))))
  (mSeq (mSet 6 (mOp addF (mOp addF (mSlice (mVar 3) mNo (mPart (mVar 4))) (mVar 5)) (mSlice (mVar 3) (mPart (mOp addF (mVar 4) (mCall F__law_draw (mSeqA (mVar 0) (mSeqA (mVar 1) (mSeqA (mC (.int 2)) mNilA)))))) mNo)))
  (mSeq (mSet 7 (mCall F__law_ask (mSeqA (mVar 6) mNilA)))
  (mSeq (mIfS (mAnd (mBool (mOp neF (mVar 7) (mTup (mSeqA (mC (.str "refused")) (mSeqA (mC (.int 5)) mNilA))))) (mBool (mOp neF (mCall F__law_shown (mSeqA (mVar 7) mNilA)) (mVar 6)))) (mRet (mC (.bl false))) mNext)
  (mSeq (mSet 8 (mNew (mLst mNilA)))
  (mSeq (mFor (mItL (mSplit (mVar 6) (mC (.str " ")))) (Tg.name 9) (mSeq (mSet 10 (mVal (mComp (mItL (mSplit (mVar 9) (mC (.str ",")))) (Tg.name 15) mTrue (mVar 15) [15])))
  (mSeq (mSet 11 (mVal (mComp (mRng1 (mC (.int 31))) (Tg.name 16) mTrue (mCall (lift1 strG) (mSeqA (mVar 16) mNilA)) [16])))
  (mSeq (mSet 12 (mAndV (mOp leF (mCall (lift1 lenG) (mSeqA (mVar 10) mNilA)) (mC (.int 8))) (mCall (lift1 allG) (mSeqA (mVal (mComp (mItL (mVar 10)) (Tg.name 15) mTrue (mOp inF (mVar 15) (mVar 11)) [15])) mNilA))))
  (mSeq (mSet 13 (mIf (mBool (mVar 12)) (mVal (mComp (mItL (mVar 10)) (Tg.name 15) mTrue (mCall (lift1 intTG) (mSeqA (mVar 15) mNilA)) [15])) (mVal (mLst (mSeqA (mC (.int 1)) (mSeqA (mC (.int 0)) mNilA))))))
  (mDrop (mMeth chkL appendF (mVar 8) (mSeqA (mOp eqF (mVar 13) (mCall (lift1 sortG) (mSeqA (mVar 13) mNilA))) mNilA))))))))
  (mSeq (mIfS (mBool (mOp neF (mOp neF (mVar 7) (mTup (mSeqA (mC (.str "refused")) (mSeqA (mC (.int 5)) mNilA)))) (mAndV (mCall (lift1 allG) (mSeqA (mVar 8) mNilA)) (mOp leF (mCall (lift1 lenG) (mSeqA (mVar 8) mNilA)) (mC (.int 4)))))) (mRet (mC (.bl false))) mNext)
  (mSeq (mSet 14 (mCall F__law_pick (mSeqA (mVar 0) (mSeqA (mVar 1) (mSeqA (mVal (mLst (mSeqA (mC .non) (mSeqA (mC (.str "")) (mSeqA (mC (.str " ")) (mSeqA (mC (.str ",")) (mSeqA (mC (.str "x")) (mSeqA (mC (.int 1)) (mSeqA (mVal (mLst (mSeqA (mC (.str "1")) mNilA))) (mSeqA (mC (.str "01")) (mSeqA (mC (.str "1,,2")) (mSeqA (mC (.str "31")) (mSeqA (mC (.str "1 ")) mNilA))))))))))))) mNilA)))))
  (mRet (mOp eqF (mCall F__law_ask (mSeqA (mVar 14) mNilA)) (mTup (mSeqA (mC (.str "refused")) (mSeqA (mC (.int 5)) mNilA))))))))))))))))))
noncomputable def B_law : FV := runB 1 17 m_law
theorem flatDs_strs : ∀ ys : List Str, flatDs (ys.map Val.str) = some (ys.map V.str)
  | [] => rfl
  | y :: ys => by simp only [List.map_cons, flatDs, flatD, flatDs_strs ys]
theorem inV_strs (x : Str) : ∀ ys : List Str, inV (.str x) (ys.map V.str) = decide (x ∈ ys)
  | [] => by simp [inV]
  | y :: ys => by
    have := inV_strs x ys
    unfold inV at this ⊢
    rw [List.map_cons, List.any_cons, this]
    by_cases e : y = x
    · subst e
      simp [eqV]
    · have e2 : ¬ x = y := fun q => e q.symm
      have e3 : (y == x) = false := by rw [beq_eq_false_iff_ne]; exact e
      simp [eqV, e2, e3]
def knownC : List (List Nat) := (List.range 31).map TL.numL
theorem mem_known {p : List Nat} : p ∈ knownC ↔ ∃ f : Nat, f ≤ 30 ∧ p = TL.numL f := by
  unfold knownC
  rw [List.mem_map]
  constructor
  · rintro ⟨f, hf, rfl⟩
    have := List.mem_range.mp hf
    exact ⟨f, by omega, rfl⟩
  · rintro ⟨f, hf, rfl⟩
    exact ⟨f, List.mem_range.mpr (by omega), rfl⟩
def fitsB (w : List Nat) : Bool := decide ((TL.spl [44] 0 [] w).length ≤ 8) && (TL.spl [44] 0 [] w).all fun p => decide (p ∈ knownC)
def numsI (w : List Nat) : List Int := (TL.spl [44] 0 [] w).map fun p => ((NumText.digitsVal p : Nat) : Int)
def goodB (w : List Nat) : Bool := fitsB w && decide (numsI w = sortI (numsI w))
theorem goodB_iff (w : List Nat) : goodB w = true ↔ goodW w := by
  unfold goodB fitsB goodW
  rw [Bool.and_eq_true, Bool.and_eq_true, decide_eq_true_eq, decide_eq_true_eq, List.all_eq_true, eq_comm, sortI_eq, and_assoc]
  refine and_congr Iff.rfl (and_congr ⟨fun h p hp => mem_known.mp (of_decide_eq_true (h p hp)), fun h p hp => decide_eq_true (mem_known.mpr (h p hp))⟩ ?_)
  unfold numsI
  rw [show (TL.spl [44] 0 [] w).map (fun p => ((NumText.digitsVal p : Nat) : Int)) = ((TL.spl [44] 0 [] w).map NumText.digitsVal).map fun n => ((n : Nat) : Int) by rw [List.map_map]; rfl, List.pairwise_map]
  exact ⟨fun h => h.imp fun q => by omega, fun h => h.imp fun q => by omega⟩
theorem S_map_mem {p : List Nat} {l : List (List Nat)} : SX.S p ∈ l.map SX.S ↔ p ∈ l := by
  rw [List.mem_map]
  exact ⟨fun ⟨q, h, e⟩ => by rw [← SX.S_inj e]; exact h, fun h => ⟨p, h, rfl⟩⟩
theorem known_in (p : List Nat) (st : Sto) : inF (.str (SX.S p)) (.lst ((knownC.map SX.S).map Val.str)) st = .ok (.bl (decide (p ∈ knownC))) st := by
  unfold inF inG
  simp only [seqOf, flatD, flatDs_strs, Option.map, inV_strs]
  congr 2
  rw [decide_eq_decide]
  exact S_map_mem
theorem known_int {p : List Nat} (h : p ∈ knownC) (st : Sto) : intTG (.str (SX.S p)) st = some (.int ((NumText.digitsVal p : Nat) : Int)) := by
  obtain ⟨f, hf, rfl⟩ := mem_known.mp h
  have hd : (TL.numL f).all (fun c => decide (48 ≤ c) && decide (c ≤ 57)) = true := by
    rw [List.all_eq_true]
    intro c hc
    have := TL.numL_digits f c hc
    simp [this.1, this.2]
  have hl : (TL.numL f).length ≤ 2 := TL.numL_len (k := 2) (by decide) (by omega)
  have := SX.int_S hd (TL.numL_ne f) (by omega)
  unfold intTG
  dsimp only
  rw [this]
  dsimp only
  rw [if_pos (by rw [SX.S_len]; omega)]
theorem split_ap {m1 m2 : ME} {ρ : Rho} {st : Sto} {w : List Nat} {s : Str} {c : Nat} (hc : c < 256) (hs : s = SX.S [c]) (h1 : m1 ρ st = .ok (.str (SX.S w)) st) (h2 : m2 ρ st = .ok (.str s) st) (hw : w.length ≤ 1000) : mSplit m1 m2 ρ st = .ok (.lst (((TL.spl [c] 0 [] w).map SX.S).map Val.str)) st := by
  subst hs
  unfold mSplit
  simp only [h1, h2, Res.bind]
  have hz : sizeLine = 2 ^ 24 := rfl
  rw [if_pos ⟨rfl, by rw [SX.S_len]; omega⟩, SX.split_S (by simp) (by simp [hc])]
noncomputable abbrev wordS : MS := (mSeq (mSet 10 (mVal (mComp (mItL (mSplit (mVar 9) (mC (.str ",")))) (Tg.name 15) mTrue (mVar 15) [15])))
  (mSeq (mSet 11 (mVal (mComp (mRng1 (mC (.int 31))) (Tg.name 16) mTrue (mCall (lift1 strG) (mSeqA (mVar 16) mNilA)) [16])))
  (mSeq (mSet 12 (mAndV (mOp leF (mCall (lift1 lenG) (mSeqA (mVar 10) mNilA)) (mC (.int 8))) (mCall (lift1 allG) (mSeqA (mVal (mComp (mItL (mVar 10)) (Tg.name 15) mTrue (mOp inF (mVar 15) (mVar 11)) [15])) mNilA))))
  (mSeq (mSet 13 (mIf (mBool (mVar 12)) (mVal (mComp (mItL (mVar 10)) (Tg.name 15) mTrue (mCall (lift1 intTG) (mSeqA (mVar 15) mNilA)) [15])) (mVal (mLst (mSeqA (mC (.int 1)) (mSeqA (mC (.int 0)) mNilA))))))
  (mDrop (mMeth chkL appendF (mVar 8) (mSeqA (mOp eqF (mVar 13) (mCall (lift1 sortG) (mSeqA (mVar 13) mNilA))) mNilA)))))))
section
variable (v0 v1 v2 v3 v4 v5 v6 v7 : Option Val)
theorem word_turn {c0 : Cell} (w : List Nat) (hw : w.length ≤ 1000) (goods : List Bool) (hg : goods.length ≤ 1000) (v10 v11 v12 v13 : Option Val) : ∃ w10 w11 w12 w13,
    wordS [v0, v1, v2, v3, v4, v5, v6, v7, some (.ref 1), some (.str (SX.S w)), v10, v11, v12, v13, none, none, none] [c0, .lst (goods.map Val.bl)]
      = .next [v0, v1, v2, v3, v4, v5, v6, v7, some (.ref 1), some (.str (SX.S w)), w10, w11, w12, w13, none, none, none] [c0, .lst ((goods ++ [goodB w]).map Val.bl)] := by
  let st : Sto := [c0, .lst (goods.map Val.bl)]
  let ps := TL.spl [44] 0 [] w
  let P : List Val := (ps.map SX.S).map Val.str
  let Kn : List Val := (knownC.map SX.S).map Val.str
  let ρ1 : Rho := [v0, v1, v2, v3, v4, v5, v6, v7, some (.ref 1), some (.str (SX.S w)), some (.lst P), v11, v12, v13, none, none, none]
  let ρ2 : Rho := [v0, v1, v2, v3, v4, v5, v6, v7, some (.ref 1), some (.str (SX.S w)), some (.lst P), some (.lst Kn), v12, v13, none, none, none]
  let ρ3 : Rho := [v0, v1, v2, v3, v4, v5, v6, v7, some (.ref 1), some (.str (SX.S w)), some (.lst P), some (.lst Kn), some (.bl (fitsB w)), v13, none, none, none]
  let N : List Int := if fitsB w = true then numsI w else [1, 0]
  let ρ4 : Rho := [v0, v1, v2, v3, v4, v5, v6, v7, some (.ref 1), some (.str (SX.S w)), some (.lst P), some (.lst Kn), some (.bl (fitsB w)), some (lI N), none, none, none]
  refine ⟨some (.lst P), some (.lst Kn), some (.bl (fitsB w)), some (lI N), ?_⟩
  have sp := split_ap (m1 := mVar 9) (m2 := mC (.str ",")) (ρ := [v0, v1, v2, v3, v4, v5, v6, v7, some (.ref 1), some (.str (SX.S w)), v10, v11, v12, v13, none, none, none]) (st := st) (w := w) (c := 44) (by decide) (show ("," : Str) = _ by decide +kernel) rfl rfl hw
  refine st_set (v := .lst P) (st1 := st) ?_ ?_
  · exact comp_v (it_lst sp) ((comp_pure none trivial id P [] fun v hv => ⟨_, rfl, rfl, rfl⟩).trans (by simp))
  refine st_set (v := .lst Kn) (st1 := st) ?_ ?_
  · refine comp_v (it_rng (n := 31) rfl (by decide) (by decide)) ?_
    refine (comp_pure none trivial (fun v => match v with | .int i => .str (SX.S (TL.numL i.toNat)) | v => v) (rng 0 31) [] fun v hv => ?_).trans ?_
    · obtain ⟨i, hi, rfl⟩ := List.mem_map.mp hv
      have := List.mem_range.mp hi
      refine ⟨_, rfl, rfl, ?_⟩
      have e0 : (0 : Int) + (i : Nat) = (i : Nat) := by omega
      have sg : strG (.int (i : Nat)) st = some (.str (SX.S (TL.numL i))) := by
        unfold strG
        dsimp only
        rw [if_pos ⟨by omega, by omega⟩]
        congr 2
        exact SX.num_S i
      rw [e0]
      exact lift_1 (v := .int (i : Nat)) rfl (by rw [sg]; rfl)
    · rw [List.nil_append]
      have e : (rng 0 31).map (fun v => match v with | .int i => Val.str (SX.S (TL.numL i.toNat)) | v => v) = Kn := by
        show _ = ((((List.range 31).map TL.numL)).map SX.S).map Val.str
        unfold rng
        rw [List.map_map, List.map_map, List.map_map]
        refine List.map_congr_left fun i _ => ?_
        simp
      exact congrArg (fun l => Res.ok l st) e
  refine st_set (v := .bl (fitsB w)) (st1 := st) ?_ ?_
  · have m1 : mOp leF (mCall (lift1 lenG) (mSeqA (mVar 10) mNilA)) (mC (.int 8)) ρ2 st = .ok (.bl (decide (ps.length ≤ 8))) st := by
      have hl : P.length = ps.length := by simp [P]
      refine (op_2 (w := .int 8) (st2 := st) (lift_1 (v := .lst P) rfl (lenL P st)) rfl).trans ?_
      rw [leF_int, hl]
      congr 2
      rw [decide_eq_decide]
      omega
    have fe : fitsB w = (decide (ps.length ≤ 8) && ps.all fun p => decide (p ∈ knownC)) := rfl
    rw [fe]
    by_cases h8 : ps.length ≤ 8
    · rw [decide_eq_true h8] at m1 ⊢
      rw [Bool.true_and]
      refine andV_yes m1 (lift_1 (comp_v (vs := (ps.map fun p => decide (p ∈ knownC)).map Val.bl) (it_lst rfl) ?_) ?_)
      · refine (comp_pure none trivial (fun v => match v with | .str s => .bl (decide (s.cps.toList ∈ knownC)) | v => v) P [] fun v hv => ?_).trans ?_
        · obtain ⟨s, hs, rfl⟩ := List.mem_map.mp hv
          obtain ⟨p, hp, rfl⟩ := List.mem_map.mp hs
          exact ⟨_, rfl, rfl, (op_2 (F := inF) (v := .str (SX.S p)) (w := .lst Kn) (st1 := st) (st2 := st) rfl rfl).trans (known_in p st)⟩
        · rw [List.nil_append, List.map_map, List.map_map, List.map_map]
          rfl
      · rw [allG_bls, List.all_map]
        rfl
    · rw [decide_eq_false h8] at m1 ⊢
      rw [Bool.false_and]
      exact andV_no m1
  refine st_set (v := lI N) (st1 := st) ?_ ?_
  · have tb : mBool (mVar 12) ρ3 st = .ok (fitsB w) st := rfl
    by_cases hf : fitsB w = true
    · have hN : N = numsI w := if_pos hf
      have hk : ∀ p ∈ ps, p ∈ knownC := fun p hp => by
        have h2 := hf
        unfold fitsB at h2
        rw [Bool.and_eq_true] at h2
        exact of_decide_eq_true (List.all_eq_true.mp h2.2 p hp)
      rw [hf] at tb
      rw [hN]
      refine ife_yes tb (comp_v (it_lst rfl) ?_)
      refine (comp_pure none trivial (fun v => match v with | .str s => .int ((NumText.digitsVal s.cps.toList : Nat) : Int) | v => v) P [] fun v hv => ?_).trans ?_
      · obtain ⟨s, hs, rfl⟩ := List.mem_map.mp hv
        obtain ⟨p, hp, rfl⟩ := List.mem_map.mp hs
        exact ⟨_, rfl, rfl, lift_1 (v := .str (SX.S p)) rfl (known_int (hk p hp) st)⟩
      · rw [List.nil_append, List.map_map]
        unfold numsI
        rw [List.map_map, List.map_map]
        rfl
    · have hN : N = [1, 0] := if_neg hf
      rw [Bool.not_eq_true] at hf
      rw [hf] at tb
      rw [hN]
      exact ife_no tb (lst_v (seq_2 rfl rfl) (by decide))
  · have hg2 : goodB w = decide (N = sortI N) := by
      unfold goodB
      by_cases hf : fitsB w = true
      · have hN : N = numsI w := if_pos hf
        rw [hf, Bool.true_and, hN]
      · have hN : N = [1, 0] := if_neg hf
        rw [hN]
        rw [Bool.not_eq_true] at hf
        rw [hf, Bool.false_and, decide_eq_false]
        intro e
        have := sortI_eq.mp e.symm
        simp at this
    have eq : mOp eqF (mVar 13) (mCall (lift1 sortG) (mSeqA (mVar 13) mNilA)) ρ4 st = .ok (.bl (goodB w)) st := by
      refine (op_2 (v := lI N) (w := lI (sortI N)) (st1 := st) (st2 := st) rfl (lift_1 (v := lI N) rfl (sort_L st))).trans ?_
      rw [hg2]
      exact eqF_lI N (sortI N) st
    have at1 : st[1]? = some (.lst (goods.map Val.bl)) := rfl
    refine (show mDrop _ ρ4 st = _ from ?_)
    rw [mDrop_ap, meth_1 (v := .ref 1) (st1 := st) rfl (chk_at at1) eq, push_at at1 (by rw [List.length_map]; omega)]
    show ResS.next ρ4 [c0, .lst (goods.map Val.bl ++ [.bl (goodB w)])] = _
    rw [List.map_append]
    rfl
theorem words_loop {c0 : Cell} : ∀ (ws : List (List Nat)) (goods : List Bool) (v9 v10 v11 v12 v13 : Option Val), (∀ w ∈ ws, w.length ≤ 1000) → goods.length + ws.length ≤ 1000 → ∃ w9 w10 w11 w12 w13,
    loop (Tg.name 9) wordS none ((ws.map SX.S).map Val.str) [v0, v1, v2, v3, v4, v5, v6, v7, some (.ref 1), v9, v10, v11, v12, v13, none, none, none] [c0, .lst (goods.map Val.bl)]
      = .next [v0, v1, v2, v3, v4, v5, v6, v7, some (.ref 1), w9, w10, w11, w12, w13, none, none, none] [c0, .lst ((goods ++ ws.map goodB).map Val.bl)]
  | [], goods, v9, v10, v11, v12, v13, _, _ => ⟨v9, v10, v11, v12, v13, by rw [List.map_nil, List.map_nil, List.map_nil, List.append_nil]; exact loop_nil (g := none) trivial⟩
  | w :: ws, goods, v9, v10, v11, v12, v13, hw, hl => by
    rw [List.length_cons] at hl
    obtain ⟨a, b, c, d, e1⟩ := word_turn v0 v1 v2 v3 v4 v5 v6 v7 (c0 := c0) w (hw w List.mem_cons_self) goods (by omega) v10 v11 v12 v13
    obtain ⟨x9, x10, x11, x12, x13, e2⟩ := words_loop (c0 := c0) ws (goods ++ [goodB w]) (some (.str (SX.S w))) a b c d (fun x hx => hw x (List.mem_cons_of_mem _ hx)) (by simp; omega)
    refine ⟨x9, x10, x11, x12, x13, ?_⟩
    have e : goods ++ (w :: ws).map goodB = (goods ++ [goodB w]) ++ ws.map goodB := by simp
    rw [e, List.map_cons, List.map_cons]
    exact (loop_cons (g := none) trivial rfl e1).trans e2
end
theorem spl_count (s : List Nat) : ∀ (l acc : List Nat) (k : Nat), (TL.spl s k acc l).length ≤ l.length + 1
  | [], acc, k => by rw [TL.spl_nil]; simp
  | c :: r, acc, 0 => by
    unfold TL.spl
    split
    · have := spl_count s r [] (s.length - 1)
      simp only [List.length_cons] at this ⊢
      omega
    · have := spl_count s r (acc ++ [c]) 0
      rw [List.length_cons]
      omega
  | c :: r, acc, k + 1 => by
    unfold TL.spl
    have := spl_count s r acc k
    rw [List.length_cons]
    omega
theorem ask_S {cs : List Nat} (h1 : cs.length ≤ 1000) (h2 : ∀ c ∈ cs, c < 256) (st : Sto) : F__law_ask [.str (SX.S cs)] st = .ok (match readC cs with | some ds => vD ds | none => refusedV 5) st := by
  have ok : PyData.strOk (SX.S cs) = true := by
    show cs.toArray.all _ = true
    rw [List.all_toArray, List.all_eq_true]
    intro c hc
    have := h2 c hc
    simp
    omega
  simp only [pureF, P__law_ask]
  rw [if_pos ⟨by rw [SX.S_len]; omega, ok⟩]
  show Out.res (match readC cs with | some ds => Out.val (vD ds) | none => .val (refusedV 5)) st = _
  cases readC cs <;> rfl
theorem nb_ref' (j : Nat) : Val.nb (refusedV j) = true ∧ Val.dep (refusedV j) ≤ 1 := by
  have : PyData.strOk "refused" = true := by decide +kernel
  exact ⟨by simp [Val.nb, Val.nbs, this], by simp [Val.dep, Val.deps]⟩
theorem ref_ne {ds : List (List Int)} (h : diceN ds) (j : Nat) : vD ds ≠ refV j := fun e => by
  cases ds with
  | nil => have := h.1; simp at this
  | cons d ds =>
    injection e with e
    rw [List.map_cons] at e
    injection e with e1 e2
    cases e1
theorem found_ne (cs : List Nat) (st : Sto) : neF (match readC cs with | some ds => vD ds | none => refV 5) (refV 5) st = .ok (.bl (readC cs).isSome) st := by
  have n := nb_refV 5
  cases hr : readC cs with
  | none =>
    rw [neF_nb n.1 n.1 (by omega) (by omega)]
    simp
  | some ds =>
    have h := (read_some hr).1
    have nd := nb_vD ds
    rw [neF_nb nd.1 n.1 (by omega) (by omega), decide_eq_false (ref_ne h 5)]
    rfl
theorem slice_S (cs : List Nat) (hz : cs.length ≤ 1000) {lo hi : Option Int} {r : List Nat} (h : Txt.slice (SX.S cs) lo hi = SX.S r) (st : Sto) : sliceG (.str (SX.S cs)) lo hi st = some (.str (SX.S r)) := by
  unfold sliceG
  dsimp only
  rw [if_pos (by rw [SX.S_len]; exact Nat.le_trans hz (by decide)), C8.cutS_slice, h]
theorem cat_S (a b : List Nat) (hz : a.length + b.length ≤ 1000000) (st : Sto) : addF (.str (SX.S a)) (.str (SX.S b)) st = .ok (.str (SX.S (a ++ b))) st := by
  unfold addF
  dsimp only
  rw [SX.S_len, SX.S_len, if_pos (Nat.le_trans hz (by decide)), SX.S_cat]
theorem law_true (ns : List Int) (h : ns.length ≤ 63) : ∃ st, B_law [.rol (ns.map Val.int)] [] = .ok (.bl true) st := by
  have T : Town [.lst []] 0 (1 + 1 + 1 + 1 + 48 + 1) := ⟨[], rfl, by simp⟩
  obtain ⟨k, s0, a1, a2, a3, a4, a5⟩ := draw_ok (ns := ns) (m := 4) T (by decide)
  obtain ⟨c0, rfl⟩ := Drawn.fst (x := []) a4
  obtain ⟨ds, s1, hn, _, _, b4, b5, b6⟩ := dice_ok (ns := ns) (m := 1 + k) (q := 8) a5 (by omega) (by omega) (by decide) (by decide)
  obtain ⟨c1, rfl⟩ := Drawn.fst (x := []) b5
  let cs := diceC ds
  have hcs : cs.length ≤ 100 := dice_len hn
  have hlt : ∀ c ∈ cs, c < 256 := dcode_lt
  obtain ⟨at', s2, d1, d2, d3, d4, d5⟩ := draw_ok (ns := ns) (m := (cs.length : Int) + 1) b6 (by omega)
  obtain ⟨at', rfl⟩ := Int.eq_ofNat_of_zero_le d1
  obtain ⟨c2, rfl⟩ := Drawn.fst (x := []) d4
  obtain ⟨i, u, s3, e1, e2, e3, e4⟩ := pick_ok (ns := ns) (us := [.str "", .str "0", .str "1", .str "9", .str ",", .str " ", .str "-", .str "a", .str "\n", .str "."]) d5 (by simp)
  obtain ⟨c3, rfl⟩ := Drawn.fst (x := []) e3
  obtain ⟨sg, rfl, hs1, hs2⟩ : ∃ sg : List Nat, u = .str (SX.S sg) ∧ sg.length ≤ 1 ∧ ∀ c ∈ sg, c < 256 := by
    have := List.mem_of_getElem? e1
    simp only [List.mem_cons, List.not_mem_nil, or_false] at this
    rcases this with rfl | rfl | rfl | rfl | rfl | rfl | rfl | rfl | rfl | rfl
    · exact ⟨[], congrArg Val.str (by decide +kernel), by decide, by decide⟩
    · exact ⟨[48], congrArg Val.str (by decide +kernel), by decide, by decide⟩
    · exact ⟨[49], congrArg Val.str (by decide +kernel), by decide, by decide⟩
    · exact ⟨[57], congrArg Val.str (by decide +kernel), by decide, by decide⟩
    · exact ⟨[44], congrArg Val.str (by decide +kernel), by decide, by decide⟩
    · exact ⟨[32], congrArg Val.str (by decide +kernel), by decide, by decide⟩
    · exact ⟨[45], congrArg Val.str (by decide +kernel), by decide, by decide⟩
    · exact ⟨[97], congrArg Val.str (by decide +kernel), by decide, by decide⟩
    · exact ⟨[10], congrArg Val.str (by decide +kernel), by decide, by decide⟩
    · exact ⟨[46], congrArg Val.str (by decide +kernel), by decide, by decide⟩
  obtain ⟨dl, s4, f1, f2, f3, f4, f5⟩ := draw_ok (ns := ns) (n := 1) (m := 2) e4 (by decide)
  obtain ⟨dl, rfl⟩ := Int.eq_ofNat_of_zero_le f1
  obtain ⟨c4, rfl⟩ := Drawn.fst (x := []) f4
  let sp := cs.take at' ++ sg ++ cs.drop (at' + dl)
  have hsp : sp.length ≤ 101 := by
    show (cs.take at' ++ sg ++ cs.drop (at' + dl)).length ≤ 101
    rw [List.length_append, List.length_append, List.length_take, List.length_drop]
    omega
  have hsl : ∀ c ∈ sp, c < 256 := fun c hc => by
    rcases List.mem_append.mp hc with hc | hc
    · rcases List.mem_append.mp hc with hc | hc
      · exact hlt c (List.mem_of_mem_take hc)
      · exact hs2 c hc
    · exact hlt c (List.mem_of_mem_drop hc)
  let found : Val := match readC sp with | some es => vD es | none => refV 5
  have fnd : ∀ st, F__law_ask [.str (SX.S sp)] st = .ok found st := fun st => ask_S (by omega) hsl st
  let ws := TL.spl [32] 0 [] sp
  have hws : ws.length ≤ 102 := Nat.le_trans (spl_count _ _ _ _) (by omega)
  have hwl : ∀ w ∈ ws, w.length ≤ 1000 := fun w hw => by
    have := spl_bound [32] sp [] 0 w hw
    simp at this
    omega
  have T5 : Town [c4, .lst ((ws.map goodB).map Val.bl)] 0 1 := by
    obtain ⟨xs, h1, h2⟩ := f5
    exact ⟨xs, h1, h2⟩
  let odd : List Val := [.non, .str "", .str " ", .str ",", .str "x", .int 1, .lst [.str "1"], .str "01", .str "1,,2", .str "31", .str "1 "]
  obtain ⟨j, o, s5, g1, g2, g3, g4⟩ := pick_ok (ns := ns) (us := odd) (n := 0) T5 (by simp [odd])
  have hodd : ∀ st, F__law_ask [o] st = .ok (refV 5) st := fun st => by
    have key : ∀ (x : Str) (l : List Nat), x = SX.S l → l.length ≤ 1000 → (∀ c ∈ l, c < 256) → readC l = none → F__law_ask [.str x] st = .ok (refV 5) st := fun x l hx h1 h2 h3 => by
      subst hx
      rw [ask_S h1 h2, h3]
    have := List.mem_of_getElem? g1
    simp only [odd, List.mem_cons, List.not_mem_nil, or_false] at this
    have nn : ∀ l, (readC l).isNone = true → readC l = none := fun l h => Option.isNone_iff_eq_none.mp h
    rcases this with rfl | rfl | rfl | rfl | rfl | rfl | rfl | rfl | rfl | rfl | rfl
    · rfl
    · exact key _ [] (by decide +kernel) (by decide) (by decide) (nn _ (by decide +kernel))
    · exact key _ [32] (by decide +kernel) (by decide) (by decide) (nn _ (by decide +kernel))
    · exact key _ [44] (by decide +kernel) (by decide) (by decide) (nn _ (by decide +kernel))
    · exact key _ [120] (by decide +kernel) (by decide) (by decide) (nn _ (by decide +kernel))
    · rfl
    · rfl
    · exact key _ [48, 49] (by decide +kernel) (by decide) (by decide) (nn _ (by decide +kernel))
    · exact key _ [49, 44, 44, 50] (by decide +kernel) (by decide) (by decide) (nn _ (by decide +kernel))
    · exact key _ [51, 49] (by decide +kernel) (by decide) (by decide) (nn _ (by decide +kernel))
    · exact key _ [49, 32] (by decide +kernel) (by decide) (by decide) (nn _ (by decide +kernel))
  have shw : ∀ st, F__law_shown [vD ds] st = .ok (.str (SX.S cs)) st := fun st => by simp only [pureF, P__law_shown, diceOf_vD hn, Out.res]; rfl
  have nbS : ∀ l, (∀ c ∈ l, c < 256) → Val.nb (.str (SX.S l)) = true := fun l hl => by
    show l.toArray.all _ = true
    rw [List.all_toArray, List.all_eq_true]
    intro c hc
    have := hl c hc
    simp
    omega
  have sameS : ∀ l, (∀ c ∈ l, c < 256) → ∀ st, neF (.str (SX.S l)) (.str (SX.S l)) st = .ok (.bl false) st := fun l hl st => by
    rw [neF_nb (nbS l hl) (nbS l hl) (by simp [Val.dep]) (by simp [Val.dep])]
    simp
  let v0 : Option Val := some (.rol (ns.map Val.int))
  let v1 : Option Val := some (.ref 0)
  let v2 : Option Val := some (vD ds)
  let v3 : Option Val := some (.str (SX.S cs))
  let v4 : Option Val := some (.int (at' : Nat))
  let v5 : Option Val := some (.str (SX.S sg))
  let v6 : Option Val := some (.str (SX.S sp))
  obtain ⟨w9, w10, w11, w12, w13, lp⟩ := words_loop v0 v1 v2 v3 v4 v5 v6 (some found) (c0 := c4) ws [] none none none none none hwl (by simp; omega)
  rw [List.nil_append] at lp
  refine ⟨s5, ?_⟩
  rw [B_law, m_law]
  refine run_ret rfl (st_set (v := .ref 0) (st1 := [.lst []]) (by simp [sizeLine]) ?_)
  refine st_set (v := vD ds) (st1 := [c1]) ?_ ?_
  · refine (call_n (seq_n rfl (seq_n rfl (seq_2 ((op_2 (v := .int 1) (w := .int k) rfl ((call_3 rfl rfl rfl).trans a3)).trans rfl) rfl)))).trans b4
  refine st_set (v := .str (SX.S cs)) (st1 := [c1]) ?_ ?_
  · refine (call_1 (v := vD ds) rfl).trans ?_
    simp only [pureF, P_shown, sane_vD, if_true, diceOf_vD hn, Out.res]
    rfl
  refine st_no (or_no (st1 := [c1]) (bool_1 ((op_2 (v := .str (SX.S cs)) (w := .str (SX.S cs)) rfl ((call_1 (v := vD ds) rfl).trans (shw [c1]))).trans (sameS cs hlt [c1]))) (bool_1 ?_)) ?_
  · refine (op_2 (w := vD ds) ((call_1 (v := .str (SX.S cs)) rfl).trans (ask_S (by omega) hlt [c1])) rfl).trans ?_
    rw [show readC cs = some ds from read_back hn]
    have nd := nb_vD ds
    rw [neF_nb nd.1 nd.1 (by omega) (by omega)]
    simp
  refine st_set (v := .int (at' : Nat)) (st1 := [c2]) ?_ ?_
  · refine (call_3 (x := .int ((cs.length : Int) + 1)) rfl rfl ((op_2 (v := .int (cs.length : Nat)) (w := .int 1) (lift_1 (v := .str (SX.S cs)) rfl ?_) rfl).trans rfl)).trans d3
    unfold lenG seqOf
    dsimp only
    rw [SX.S_len, if_pos (Nat.le_trans hcs (by decide))]
  refine st_set (v := .str (SX.S sg)) (st1 := [c3]) ((call_3 rfl rfl (lst_v (seq_n rfl (seq_n rfl (seq_n rfl (seq_n rfl (seq_n rfl (seq_n rfl (seq_n rfl (seq_n rfl (seq_n rfl (seq_1 rfl)))))))))) (by simp))).trans e2) ?_
  refine st_set (v := .str (SX.S sp)) (st1 := [c4]) ?_ ?_
  · refine (op_2 (v := .str (SX.S (cs.take at' ++ sg))) (w := .str (SX.S (cs.drop (at' + dl)))) (st1 := [c3]) (st2 := [c4]) ?_ ?_).trans (cat_S _ _ (by rw [List.length_append, List.length_take, List.length_drop]; omega) [c4])
    · refine (op_2 (v := .str (SX.S (cs.take at'))) (w := .str (SX.S sg)) (st1 := [c3]) (st2 := [c3]) ?_ rfl).trans (cat_S _ _ (by rw [List.length_take]; omega) [c3])
      have sl := SX.slice_to (a := cs) (i := ((at' : Nat) : Int)) (by omega)
      rw [Int.toNat_natCast] at sl
      exact mSlice_ap (v := .str (SX.S cs)) (l := none) (h := some ((at' : Nat) : Int)) (st1 := [c3]) (st2 := [c3]) rfl rfl rfl (slice_S cs (by omega) sl [c3])
    · have sl := SX.slice_from (a := cs) (i := ((at' : Nat) : Int) + (dl : Nat)) (by omega)
      rw [show (((at' : Nat) : Int) + (dl : Nat)).toNat = at' + dl by omega] at sl
      refine mSlice_ap (v := .str (SX.S cs)) (l := some (((at' : Nat) : Int) + (dl : Nat))) (h := none) (st1 := [c3]) (st2 := [c4]) rfl ?_ rfl (slice_S cs (by omega) sl [c4])
      unfold mPart
      have q : mOp addF (mVar 4) (mCall F__law_draw (mSeqA (mVar 0) (mSeqA (mVar 1) (mSeqA (mC (.int 2)) mNilA)))) [v0, v1, v2, v3, v4, v5, none, none, none, none, none, none, none, none, none, none, none] [c3] = .ok (.int (((at' : Nat) : Int) + (dl : Nat))) [c4] :=
        (op_2 (v := .int (at' : Nat)) (w := .int (dl : Nat)) rfl ((call_3 rfl rfl rfl).trans f3)).trans rfl
      show (mOp addF (mVar 4) (mCall F__law_draw (mSeqA (mVar 0) (mSeqA (mVar 1) (mSeqA (mC (.int 2)) mNilA)))) [v0, v1, v2, v3, v4, v5, none, none, none, none, none, none, none, none, none, none, none] [c3]).bind _ = _
      rw [q]
      rfl
  refine st_set (v := found) (st1 := [c4]) ((call_1 (v := .str (SX.S sp)) rfl).trans (fnd [c4])) ?_
  refine st_no ?_ ?_
  · have t1 : mBool (mOp neF (mVar 7) (mTup (mSeqA (mC (.str "refused")) (mSeqA (mC (.int 5)) mNilA)))) [v0, v1, v2, v3, v4, v5, v6, some found, none, none, none, none, none, none, none, none, none] [c4] = .ok (readC sp).isSome [c4] :=
      bool_1 ((op_2 (v := found) (w := refV 5) rfl (tup_v (seq_2 rfl rfl) (by decide))).trans (found_ne sp [c4]))
    cases hr : readC sp with
    | none =>
      rw [hr] at t1
      exact and_no t1
    | some es =>
      rw [hr] at t1
      obtain ⟨he, hsp2⟩ := read_some hr
      refine and_yes t1 (bool_1 ((op_2 (v := .str (SX.S sp)) (w := .str (SX.S sp)) (st1 := [c4]) (st2 := [c4]) ?_ rfl).trans (sameS sp hsl [c4])))
      have hf : found = vD es := by show (match readC sp with | some es => vD es | none => refV 5) = _; rw [hr]
      refine (call_1 (v := vD es) (by rw [← hf]; rfl)).trans ?_
      simp only [pureF, P__law_shown, diceOf_vD he, Out.res]
      rw [hsp2]
  refine st_set (v := .ref 1) (st1 := [c4, .lst []]) (by simp [sizeLine]) ?_
  refine st_go (ρ1 := [v0, v1, v2, v3, v4, v5, v6, some found, some (.ref 1), w9, w10, w11, w12, w13, none, none, none]) (st1 := [c4, .lst ((ws.map goodB).map Val.bl)]) ?_ ?_
  · exact for_in (it_lst (split_ap (c := 32) (w := sp) (by decide) (show (" " : Str) = _ by decide +kernel) rfl rfl (by omega))) lp
  let st6 : Sto := [c4, .lst ((ws.map goodB).map Val.bl)]
  refine st_no (bool_1 ?_) ?_
  · have rb : (readC sp).isSome = (decide (ws.length ≤ 4) && ws.all goodB) := by
      rw [Bool.eq_iff_iff, read_iff, Bool.and_eq_true, decide_eq_true_eq, List.all_eq_true]
      exact and_congr Iff.rfl ⟨fun q w hw => (goodB_iff w).mpr (q w hw), fun q w hw => (goodB_iff w).mp (q w hw)⟩
    have m1 : mOp neF (mVar 7) (mTup (mSeqA (mC (.str "refused")) (mSeqA (mC (.int 5)) mNilA))) [v0, v1, v2, v3, v4, v5, v6, some found, some (.ref 1), w9, w10, w11, w12, w13, none, none, none] st6 = .ok (.bl (readC sp).isSome) st6 :=
      (op_2 (v := found) (w := refV 5) rfl (tup_v (seq_2 rfl rfl) (by decide))).trans (found_ne sp st6)
    have m2 : mAndV (mCall (lift1 allG) (mSeqA (mVar 8) mNilA)) (mOp leF (mCall (lift1 lenG) (mSeqA (mVar 8) mNilA)) (mC (.int 4))) [v0, v1, v2, v3, v4, v5, v6, some found, some (.ref 1), w9, w10, w11, w12, w13, none, none, none] st6 = .ok (.bl (decide (ws.length ≤ 4) && ws.all goodB)) st6 := by
      have al : allG (.ref 1) st6 = some (.bl (ws.all goodB)) := by
        have e : allG (.ref 1) st6 = allG (.lst ((ws.map goodB).map Val.bl)) st6 := rfl
        rw [e, allG_bls, List.all_map]
        rfl
      have hl : lenG (.ref 1) st6 = some (.int (ws.length : Nat)) := by
        show some (Val.int (((ws.map goodB).map Val.bl).length : Nat)) = _
        simp
      by_cases ha : ws.all goodB = true
      · rw [ha] at al ⊢
        rw [Bool.and_true]
        refine andV_yes (lift_1 (v := .ref 1) rfl al) ((op_2 (w := .int 4) (lift_1 (v := .ref 1) rfl hl) rfl).trans ?_)
        rw [leF_int]
        congr 2
        rw [decide_eq_decide]
        omega
      · rw [Bool.not_eq_true] at ha
        rw [ha] at al ⊢
        rw [Bool.and_false]
        exact andV_no (lift_1 (v := .ref 1) rfl al)
    refine (op_2 m1 m2).trans ?_
    rw [rb, neF_bl, decide_eq_true rfl]
    rfl
  refine st_set (v := o) (st1 := s5) ((call_3 rfl rfl (lst_v (seq_n rfl (seq_n rfl (seq_n rfl (seq_n rfl (seq_n rfl (seq_n rfl (seq_n (lst_v (seq_1 rfl) (by simp)) (seq_n rfl (seq_n rfl (seq_n rfl (seq_1 rfl))))))))))) (by simp))).trans g2) ?_
  refine st_ret ((op_2 (w := refV 5) ((call_1 (v := o) rfl).trans (hodd s5)) (tup_v (seq_2 rfl rfl) (by decide))).trans ?_)
  have n := nb_refV 5
  rw [eqF_nb n.1 n.1 (by omega) (by omega)]
  simp
section
variable {P : Program} {w : World} {K : PySem.W.Frag} {mg : Str → Option Value} {base : Heap} {DE : Addr}
theorem sc__law_which : FnScope ["_law_e", "_law_own"] ["_law_e"] (defScope s__law_which) := ⟨rfl, rfl, rfl, by decide +kernel, rfl, by decide +kernel, by decide +kernel⟩
theorem whi_NoDice (T : Txt K mg DE) : ∃ D : Addr, mg "NoDice" = some (.ref D) ∧ PySem.W.exmOne K (.ref D) (.ref DE) = some true ∧ Whi P w K mg base 1 "_law_which" D 1 := by
  obtain ⟨D, hE, eNoDie, eNoDice, eNoTotals, eNoNumber, eTooMany, eNoText⟩ := T.e_NoDice
  obtain ⟨f, fd, Fu, hm, b⟩ := T.f__law_which
  refine ⟨D, hE.gD, hE.de, ⟨f, fd, ?_, hm, Fu.kp, b⟩⟩
  obtain ⟨oc, od, kV, doc, pm, an, cdv, ct, osl, rfl, lk, hcd⟩ := Fu.ex
  refine fn_ofP lk hcd sc__law_which spW_len (fun A outer s H vs Q E p hot room h => ?_)
  obtain ⟨rfl, h1, h2, h3, h4⟩ := h
  have hu : (A.deeper (PyProof.Rows.envOfC "_law_which" (defScope s__law_which) s.heap.objs.size f cdv)).units + 64 < cLine := by have := room.un; omega
  have IE : IsErr (cxH CX0 P w K mg base ["_law_e", "_law_own"] "_law_which" (defScope s__law_which) f cdv A outer s H E p) p D := ⟨List.mem_singleton.mpr rfl, h1, h2, h3⟩
  refine ⟨_, pss_cons (ps_set (i := 1) sc__law_which.nd rfl (Or.inl rfl) (pe_lst (pas_cons (pe_isP hE.ec IE eNoDie T.b_isinstance rfl (Or.inl rfl) (by decide +kernel) rfl rfl) (pas_cons (pe_isP hE.ec IE eNoDice T.b_isinstance rfl (Or.inl rfl) (by decide +kernel) rfl rfl) (pas_cons (pe_isP hE.ec IE eNoTotals T.b_isinstance rfl (Or.inl rfl) (by decide +kernel) rfl rfl) (pas_cons (pe_isP hE.ec IE eNoNumber T.b_isinstance rfl (Or.inl rfl) (by decide +kernel) rfl rfl) pas_nil))))))
    (pss_cons (ps_expr (pe_bm PySem.F.plainAttrs_list PySem.F.slot_list_extend PySem.F.type_list_extend mt_extend (pv 1) (pa_cons (pe_lst (pas_cons (pe_isP hE.ec IE eTooMany T.b_isinstance rfl (Or.inl rfl) (by decide +kernel) rfl rfl) (pas_cons (pe_isP hE.ec IE eNoText T.b_isinstance rfl (Or.inl rfl) (by decide +kernel) rfl rfl) pas_nil))) pa_nil)))
    (pss_cons (ps_if (PW.pt (pw_or (pt_cmpR op_ne (pe_bm PySem.F.plainAttrs_list PySem.F.slot_list_count PySem.F.type_list_count (mt_bcount hu) (pv 1) (pa_cons pe_bl pa_nil)) pe_int (nomark _))
      (pw_or1 (pt_not (pt_val (pe_isPT hE.ec IE hE.ve T.b_isinstance rfl (Or.inl rfl) (by decide +kernel) rfl rfl T.b_ValueError (by decide +kernel))))))) pss_never pss_nil)
    (pss_one (ps_ret (pe_tup (pa_cons pe_str (pa_cons (pe_bm PySem.F.plainAttrs_list PySem.F.slot_list_index PySem.F.type_list_index mt_bindex (pv 1) (pa_cons pe_bl pa_nil)) pa_nil))))))), ?_⟩
  exact which_reads2 (j := 1) (by decide) (by decide) (by decide) (by decide) h4
theorem whi_NoText (T : Txt K mg DE) : ∃ D : Addr, mg "NoText" = some (.ref D) ∧ PySem.W.exmOne K (.ref D) (.ref DE) = some true ∧ Whi P w K mg base 1 "_law_which" D 5 := by
  obtain ⟨D, hE, eNoDie, eNoDice, eNoTotals, eNoNumber, eTooMany, eNoText⟩ := T.e_NoText
  obtain ⟨f, fd, Fu, hm, b⟩ := T.f__law_which
  refine ⟨D, hE.gD, hE.de, ⟨f, fd, ?_, hm, Fu.kp, b⟩⟩
  obtain ⟨oc, od, kV, doc, pm, an, cdv, ct, osl, rfl, lk, hcd⟩ := Fu.ex
  refine fn_ofP lk hcd sc__law_which spW_len (fun A outer s H vs Q E p hot room h => ?_)
  obtain ⟨rfl, h1, h2, h3, h4⟩ := h
  have hu : (A.deeper (PyProof.Rows.envOfC "_law_which" (defScope s__law_which) s.heap.objs.size f cdv)).units + 64 < cLine := by have := room.un; omega
  have IE : IsErr (cxH CX0 P w K mg base ["_law_e", "_law_own"] "_law_which" (defScope s__law_which) f cdv A outer s H E p) p D := ⟨List.mem_singleton.mpr rfl, h1, h2, h3⟩
  refine ⟨_, pss_cons (ps_set (i := 1) sc__law_which.nd rfl (Or.inl rfl) (pe_lst (pas_cons (pe_isP hE.ec IE eNoDie T.b_isinstance rfl (Or.inl rfl) (by decide +kernel) rfl rfl) (pas_cons (pe_isP hE.ec IE eNoDice T.b_isinstance rfl (Or.inl rfl) (by decide +kernel) rfl rfl) (pas_cons (pe_isP hE.ec IE eNoTotals T.b_isinstance rfl (Or.inl rfl) (by decide +kernel) rfl rfl) (pas_cons (pe_isP hE.ec IE eNoNumber T.b_isinstance rfl (Or.inl rfl) (by decide +kernel) rfl rfl) pas_nil))))))
    (pss_cons (ps_expr (pe_bm PySem.F.plainAttrs_list PySem.F.slot_list_extend PySem.F.type_list_extend mt_extend (pv 1) (pa_cons (pe_lst (pas_cons (pe_isP hE.ec IE eTooMany T.b_isinstance rfl (Or.inl rfl) (by decide +kernel) rfl rfl) (pas_cons (pe_isP hE.ec IE eNoText T.b_isinstance rfl (Or.inl rfl) (by decide +kernel) rfl rfl) pas_nil))) pa_nil)))
    (pss_cons (ps_if (PW.pt (pw_or (pt_cmpR op_ne (pe_bm PySem.F.plainAttrs_list PySem.F.slot_list_count PySem.F.type_list_count (mt_bcount hu) (pv 1) (pa_cons pe_bl pa_nil)) pe_int (nomark _))
      (pw_or1 (pt_not (pt_val (pe_isPT hE.ec IE hE.ve T.b_isinstance rfl (Or.inl rfl) (by decide +kernel) rfl rfl T.b_ValueError (by decide +kernel))))))) pss_never pss_nil)
    (pss_one (ps_ret (pe_tup (pa_cons pe_str (pa_cons (pe_bm PySem.F.plainAttrs_list PySem.F.slot_list_index PySem.F.type_list_index mt_bindex (pv 1) (pa_cons pe_bl pa_nil)) pa_nil))))))), ?_⟩
  exact which_reads2 (j := 5) (by decide) (by decide) (by decide) (by decide) h4
theorem wh_all (T : Txt K mg DE) (cc : Str) (j : Nat) (h : idx cc = some j) : ∃ D : Addr, mg cc = some (.ref D) ∧ PySem.W.exmOne K (.ref D) (.ref DE) = some true ∧ Whi P w K mg base 1 "_law_which" D j := by
  unfold idx at h
  split at h
  · rename_i e; cases h; subst e; exact whi_NoDice T
  split at h
  · rename_i e; cases h; subst e; exact whi_NoText T
  cases h
theorem ex_all (T : Txt K mg DE) (cc : Str) (j : Nat) (h : idx cc = some j) : ∃ D : Addr, mg cc = some (.ref D) ∧ PySem.W.exmOne K (.ref D) (.ref DE) = some true := by
  unfold idx at h
  split at h
  · rename_i e; cases h; subst e; obtain ⟨D, hE, _⟩ := T.e_NoDice; exact ⟨D, hE.gD, hE.de⟩
  split at h
  · rename_i e; cases h; subst e; obtain ⟨D, hE, _⟩ := T.e_NoText; exact ⟨D, hE.gD, hE.de⟩
  cases h
theorem cal_is_whole (T : Txt K mg DE) : Cal P w K mg base 1 "is_whole" F_is_whole := by
  refine cal_of T.f_is_whole sc_is_whole ref_is_whole (fun f cdv A outer s H E hr => ?_)
  have hu := hr.units
  exact (dss_one (ds_ret (d_and (d_isi (T := Ty.int) rfl T.b_isinstance (by decide +kernel) rfl T.b_int (by decide +kernel) (dv 0)) (d_and (d_not (d_isi (T := Ty.bl) rfl T.b_isinstance (by decide +kernel) rfl T.b_bool (by decide +kernel) (dv 0))) (d_one (d_chain leF_ok leF_ne leF_ok leF_ne (dv 1) (dv 0) (dv 2)))))))
theorem cal_is_die (T : Txt K mg DE) : Cal P w K mg base 2 "is_die" F_is_die := by
  have c_is_whole := cal_is_whole (P := P) (w := w) (base := base) T
  refine cal_of T.f_is_die sc_is_die ref_is_die (fun f cdv A outer s H E hr => ?_)
  have hu := hr.units
  exact (dss_cons (ds_ifS (PW.pt (dw_or (dt_not (dt_val (d_isi (T := Ty.tup) rfl T.b_isinstance (by decide +kernel) rfl T.b_tuple (by decide +kernel) (dv 0)))) (dw_or1 (dt_not (dt_chain leF_ok leF_ne leF_ok leF_ne d_int (d_cb len_ok lift1_ne rfl T.b_len (by decide +kernel) (da_cons (dv 0) da_nil)) (d_gi rfl T.k_FACES)))))) (dss_one (ds_ret d_bl)) dss_nil)
  (dss_cons (ds_ifS (dt_not (dt_val (d_cb (all_ok rfl) lift1_ne rfl T.b_all (by decide +kernel) (da_cons (d_val (df_comp (own := [("face", 1)]) rfl sc_is_die.nd (di_tup (dv 0)) (blkOk_by (N := ["thing", "face"]) (sc := defScope s_is_die) (by decide +kernel)) (by decide) (fun _ _ _ _ _ => (dg_name (i := 1) sc_is_die.nd rfl (by first | exact Or.inl rfl | exact Or.inr rfl))) (fun _ _ _ _ _ => dts_nil) (fun _ _ _ _ _ => (d_call c_is_whole takes0 hr (by decide) rfl (da_cons (dv 1) (da_cons d_int (da_cons (d_gi rfl T.k_FACE) da_nil))))))) da_nil)))) (dss_one (ds_ret d_bl)) dss_nil)
  (dss_one (ds_ret (d_cmp (eqF_ok hu) eqF_ne (d_ct list_ok lift1_ne rfl T.b_list (by decide +kernel) (da_cons (dv 0) da_nil)) (d_cb (sorted_ok hr) lift1_ne rfl T.b_sorted (by decide +kernel) (da_cons (dv 0) da_nil)) (nomark _))))))
theorem cal_are_dice (T : Txt K mg DE) : Cal P w K mg base 3 "are_dice" F_are_dice := by
  have c_is_die := cal_is_die (P := P) (w := w) (base := base) T
  refine cal_of T.f_are_dice sc_are_dice ref_are_dice (fun f cdv A outer s H E hr => ?_)
  have hu := hr.units
  exact (dss_one (ds_ret (d_and (d_isi (T := Ty.tup) rfl T.b_isinstance (by decide +kernel) rfl T.b_tuple (by decide +kernel) (dv 0)) (d_and (d_chain leF_ok leF_ne leF_ok leF_ne d_int (d_cb len_ok lift1_ne rfl T.b_len (by decide +kernel) (da_cons (dv 0) da_nil)) (d_gi rfl T.k_DICE)) (d_one (d_cb (all_ok rfl) lift1_ne rfl T.b_all (by decide +kernel) (da_cons (d_val (df_comp (own := [("die", 1)]) rfl sc_are_dice.nd (di_tup (dv 0)) (blkOk_by (N := ["thing", "die"]) (sc := defScope s_are_dice) (by decide +kernel)) (by decide) (fun _ _ _ _ _ => (dg_name (i := 1) sc_are_dice.nd rfl (by first | exact Or.inl rfl | exact Or.inr rfl))) (fun _ _ _ _ _ => dts_nil) (fun _ _ _ _ _ => (d_call c_is_die takes0 hr (by decide) rfl (da_cons (dv 1) da_nil))))) da_nil)))))))
theorem cal_need_dice (T : Txt K mg DE) : Cal P w K mg base 4 "need_dice" F_need_dice := by
  have c_are_dice := cal_are_dice (P := P) (w := w) (base := base) T
  refine cal_of T.f_need_dice sc_need_dice ref_need_dice (fun f cdv A outer s H E hr => ?_)
  have hu := hr.units
  exact (dss_one (ds_ifS (dt_not (dt_val (d_call c_are_dice (takes_of rfl rfl rfl rfl) hr (by decide) rfl (da_cons (dv 0) da_nil)))) (dss_one (ds_raiseT rfl (takes_of rfl rfl rfl rfl) T.x_NoDice rfl)) dss_nil))
theorem cal_text_of (T : Txt K mg DE) : Cal P w K mg base 1 "text_of" F_text_of := by
  refine cal_of T.f_text_of sc_text_of ref_text_of (fun f cdv A outer s H E hr => ?_)
  have hu := hr.units
  exact (dss_one (ds_ret (d_join d_str (d_val (df_comp (own := [("die", 1)]) rfl sc_text_of.nd (di_tup (dv 0)) (blkOk_by (N := ["dice", "die", "face"]) (sc := defScope s_text_of) (by decide +kernel)) (by decide) (fun _ _ _ _ _ => (dg_name (i := 1) sc_text_of.nd rfl (by first | exact Or.inl rfl | exact Or.inr rfl))) (fun _ _ _ _ _ => dts_nil) (fun _ _ _ _ _ => (d_join d_str (d_val (df_comp (own := [("face", 2)]) rfl sc_text_of.nd (di_tup (dv 1)) (blkOk_by (N := ["dice", "die", "face"]) (by rfl)) (by decide) (fun _ _ _ _ _ => (dg_name (i := 2) sc_text_of.nd rfl (by first | exact Or.inl rfl | exact Or.inr rfl))) (fun _ _ _ _ _ => dts_nil) (fun _ _ _ _ _ => (d_ct str_ok lift1_ne rfl T.b_str (by decide +kernel) (da_cons (dv 2) da_nil))))))))))))
theorem cal_shown (T : Txt K mg DE) : Cal P w K mg base 5 "shown" F_shown := by
  have c_need_dice := cal_need_dice (P := P) (w := w) (base := base) T
  have c_text_of := cal_text_of (P := P) (w := w) (base := base) T
  refine cal_of T.f_shown sc_shown ref_shown (fun f cdv A outer s H E hr => ?_)
  have hu := hr.units
  exact (dss_cons (ds_expr (d_call c_need_dice (takes_of rfl rfl rfl rfl) hr (by decide) rfl (da_cons (dv 0) da_nil)))
  (dss_one (ds_ret (d_call c_text_of (takes_of rfl rfl rfl rfl) hr (by decide) rfl (da_cons (dv 0) da_nil)))))
theorem cal_number (T : Txt K mg DE) : Cal P w K mg base 1 "number" F_number := by
  refine cal_of T.f_number sc_number ref_number (fun f cdv A outer s H E hr => ?_)
  have hu := hr.units
  exact (dss_cons (ds_ifS (PW.pt (dw_or (dt_not (dt_chain leF_ok leF_ne leF_ok leF_ne d_int (d_cb len_ok lift1_ne rfl T.b_len (by decide +kernel) (da_cons (dv 0) da_nil)) d_int)) (dw_or1 (dt_not (dt_val (d_cb (all_ok rfl) lift1_ne rfl T.b_all (by decide +kernel) (da_cons (d_val (df_comp (own := [("sign", 1)]) rfl sc_number.nd (di_str (dv 0)) (blkOk_by (N := ["word", "sign"]) (sc := defScope s_number) (by decide +kernel)) (by decide) (fun _ _ _ _ _ => (dg_name (i := 1) sc_number.nd rfl (by first | exact Or.inl rfl | exact Or.inr rfl))) (fun _ _ _ _ _ => dts_nil) (fun _ _ _ _ _ => (d_cmp inSF_ok inSF_ne (dv 1) (d_gs rfl T.k_FIGURES) (by rfl))))) da_nil))))))) (dss_one (ds_ret d_non)) dss_nil)
  (dss_one (ds_ret (d_ct intT_ok lift1_ne rfl T.b_int (by decide +kernel) (da_cons (dv 0) da_nil)))))
theorem cal_read (T : Txt K mg DE) : Cal P w K mg base 4 "read" F_read := by
  have c_number := cal_number (P := P) (w := w) (base := base) T
  have c_are_dice := cal_are_dice (P := P) (w := w) (base := base) T
  have c_text_of := cal_text_of (P := P) (w := w) (base := base) T
  refine cal_of T.f_read sc_read ref_read (fun f cdv A outer s H E hr => ?_)
  have hu := hr.units
  exact (dss_cons (ds_ifS (dt_not (dt_val (d_isi (T := Ty.str) rfl T.b_isinstance (by decide +kernel) rfl T.b_str (by decide +kernel) (dv 0)))) (dss_one (ds_raiseT rfl (takes_of rfl rfl rfl rfl) T.x_NoText rfl)) dss_nil)
  (dss_cons (ds_set (i := 1) sc_read.nd rfl (by first | exact Or.inl rfl | exact Or.inr rfl) (d_ct tuple_ok lift1_ne rfl T.b_tuple (by decide +kernel) (da_cons (d_val (df_comp (own := [("die", 2)]) rfl sc_read.nd (di_list (d_split (dv 0) d_str)) (blkOk_by (N := ["text", "dice", "die", "word"]) (sc := defScope s_read) (by decide +kernel)) (by decide) (fun _ _ _ _ _ => (dg_name (i := 2) sc_read.nd rfl (by first | exact Or.inl rfl | exact Or.inr rfl))) (fun _ _ _ _ _ => dts_nil) (fun _ _ _ _ _ => (d_ct tuple_ok lift1_ne rfl T.b_tuple (by decide +kernel) (da_cons (d_val (df_comp (own := [("word", 3)]) rfl sc_read.nd (di_list (d_split (dv 2) d_str)) (blkOk_by (N := ["text", "dice", "die", "word"]) (by rfl)) (by decide) (fun _ _ _ _ _ => (dg_name (i := 3) sc_read.nd rfl (by first | exact Or.inl rfl | exact Or.inr rfl))) (fun _ _ _ _ _ => dts_nil) (fun _ _ _ _ _ => (d_call c_number takes0 hr (by decide) rfl (da_cons (dv 3) da_nil))))) da_nil))))) da_nil)))
  (dss_cons (ds_ifS (PW.pt (dw_or (dt_not (dt_val (d_call c_are_dice (takes_of rfl rfl rfl rfl) hr (by decide) rfl (da_cons (dv 1) da_nil)))) (dw_or1 (dt_cmp (neF_ok hu) neF_ne (d_call c_text_of (takes_of rfl rfl rfl rfl) hr (by decide) rfl (da_cons (dv 1) da_nil)) (dv 0) (nomark _))))) (dss_one (ds_raiseT rfl (takes_of rfl rfl rfl rfl) T.x_NoText rfl)) dss_nil)
  (dss_one (ds_ret (dv 1))))))
theorem cal__law_cell_at (T : Txt K mg DE) : Cal P w K mg base 1 "_law_cell_at" F__law_cell_at := by
  refine cal_of T.f__law_cell_at sc__law_cell_at ref__law_cell_at (fun f cdv A outer s H E hr => ?_)
  have hu := hr.units
  exact (dss_cons (ds_ifS (dt_cmp ltF_ok ltF_ne (dv 1) (d_cb len_ok lift1_ne rfl T.b_len (by decide +kernel) (da_cons (dv 0) da_nil)) (nomark _)) (dss_one (ds_ret (d_ix (dv 0) (dv 1)))) dss_nil)
  (dss_cons (ds_ifS (dt_cmp (eqF_ok hu) eqF_ne (dv 0) (d_val (df_lst da_nil)) (nomark _)) (dss_one (ds_ret d_int)) dss_nil)
  (dss_one (ds_ret (d_op addF_ok addF_ne (d_op mulF_ok mulF_ne (d_ix (dv 0) (d_op modF_ok modF_ne (dv 1) (d_cb len_ok lift1_ne rfl T.b_len (by decide +kernel) (da_cons (dv 0) da_nil)))) d_int) (dv 1))))))
theorem cal__law_mixed (T : Txt K mg DE) : Cal P w K mg base 2 "_law_mixed" F__law_mixed := by
  have c__law_cell_at := cal__law_cell_at (P := P) (w := w) (base := base) T
  refine cal_of T.f__law_mixed sc__law_mixed ref__law_mixed (fun f cdv A outer s H E hr => ?_)
  have hu := hr.units
  exact (dss_cons (ds_set (i := 3) sc__law_mixed.nd rfl (by first | exact Or.inl rfl | exact Or.inr rfl) (d_op modF_ok modF_ne (d_op mulF_ok mulF_ne (d_op addF_ok addF_ne (d_op addF_ok addF_ne (d_call c__law_cell_at (takes_of rfl rfl rfl rfl) hr (by decide) rfl (da_cons (dv 0) (da_cons (dv 1) da_nil))) (d_op mulF_ok mulF_ne d_int (dv 1))) d_int) d_int) d_int))
  (dss_one (ds_ret (d_op modF_ok modF_ne (d_op modF_ok modF_ne (d_op addF_ok addF_ne (d_op addF_ok addF_ne (d_op mulF_ok mulF_ne (dv 3) (dv 3)) (d_op mulF_ok mulF_ne d_int (dv 3))) (dv 1)) d_int) (dv 2)))))
theorem cal__law_draw (T : Txt K mg DE) : Cal P w K mg base 3 "_law_draw" F__law_draw := by
  have c__law_mixed := cal__law_mixed (P := P) (w := w) (base := base) T
  refine cal_of T.f__law_draw sc__law_draw ref__law_draw (fun f cdv A outer s H E hr => ?_)
  have hu := hr.units
  exact (dss_cons (ds_expr (d_bm PySem.F.plainAttrs_list PySem.F.slot_list_append PySem.F.type_list_append append_ok appendF_ne chkL_ok (dv 1) (da_cons d_int da_nil)))
  (dss_one (ds_ret (d_call c__law_mixed (takes_of rfl rfl rfl rfl) hr (by decide) rfl (da_cons (dv 0) (da_cons (d_cb len_ok lift1_ne rfl T.b_len (by decide +kernel) (da_cons (dv 1) da_nil)) (da_cons (dv 2) da_nil)))))))
theorem cal__law_pick (T : Txt K mg DE) : Cal P w K mg base 4 "_law_pick" F__law_pick := by
  have c__law_draw := cal__law_draw (P := P) (w := w) (base := base) T
  refine cal_of T.f__law_pick sc__law_pick ref__law_pick (fun f cdv A outer s H E hr => ?_)
  have hu := hr.units
  exact (dss_one (ds_ret (d_ix (dv 2) (d_call c__law_draw (takes_of rfl rfl rfl rfl) hr (by decide) rfl (da_cons (dv 0) (da_cons (dv 1) (da_cons (d_cb len_ok lift1_ne rfl T.b_len (by decide +kernel) (da_cons (dv 2) da_nil)) da_nil)))))))
theorem cal__law_die (T : Txt K mg DE) : Cal P w K mg base 5 "_law_die" F__law_die := by
  have c__law_pick := cal__law_pick (P := P) (w := w) (base := base) T
  have c__law_draw := cal__law_draw (P := P) (w := w) (base := base) T
  refine cal_of T.f__law_die sc__law_die ref__law_die (fun f cdv A outer s H E hr => ?_)
  have hu := hr.units
  exact (dss_cons (ds_set (i := 4) sc__law_die.nd rfl (by first | exact Or.inl rfl | exact Or.inr rfl) (d_call c__law_pick (takes_of rfl rfl rfl rfl) hr (by decide) rfl (da_cons (dv 0) (da_cons (dv 1) (da_cons (d_val (df_lst (da_cons d_int (da_cons d_int (da_cons d_int (da_cons d_int (da_cons (d_call c__law_draw (takes_of rfl rfl rfl rfl) hr (by decide) rfl (da_cons (dv 0) (da_cons (dv 1) (da_cons d_int da_nil)))) da_nil))))))) da_nil)))))
  (dss_cons (ds_set (i := 5) sc__law_die.nd rfl (by first | exact Or.inl rfl | exact Or.inr rfl) (d_call c__law_pick (takes_of rfl rfl rfl rfl) hr (by decide) rfl (da_cons (dv 0) (da_cons (dv 1) (da_cons (d_val (df_lst (da_cons d_int (da_cons d_int (da_cons d_int (da_cons d_int da_nil)))))) da_nil)))))
  (dss_cons (ds_setLc (i := 6) (own := [("_law_k", 7)]) rfl sc__law_die.nd rfl rfl (sw_true rfl rfl rfl (by decide +kernel)) (di_rng1 rfl T.b_range (dv 2)) (blkOk_by (N := ["_law_script", "_law_town", "_law_faces", "_law_most", "_law_low", "_law_wide", "_law_made", "_law_k"]) (sc := defScope s__law_die) (by decide +kernel)) (by decide) (fun _ _ _ _ _ => (dg_name (i := 7) sc__law_die.nd rfl (by first | exact Or.inl rfl | exact Or.inr rfl))) (fun _ _ _ _ _ => dts_nil) (fun _ _ _ _ _ => (d_cb (min2_ok rfl) min2F_ne rfl T.b_min (by decide +kernel) (da_cons (dv 3) (da_cons (d_op addF_ok addF_ne (dv 4) (d_call c__law_draw takes0 hr (by decide) rfl (da_cons (dv 0) (da_cons (dv 1) (da_cons (dv 5) da_nil))))) da_nil)))))
  (dss_one (ds_ret (d_ct tuple_ok lift1_ne rfl T.b_tuple (by decide +kernel) (da_cons (d_cb (sorted_ok hr) lift1_ne rfl T.b_sorted (by decide +kernel) (da_cons (dv 6) da_nil)) da_nil)))))))
theorem cal__law_dice (T : Txt K mg DE) : Cal P w K mg base 6 "_law_dice" F__law_dice := by
  have c__law_die := cal__law_die (P := P) (w := w) (base := base) T
  have c__law_draw := cal__law_draw (P := P) (w := w) (base := base) T
  refine cal_of T.f__law_dice sc__law_dice ref__law_dice (fun f cdv A outer s H E hr => ?_)
  have hu := hr.units
  exact (dss_one (ds_ret (d_ct tuple_ok lift1_ne rfl T.b_tuple (by decide +kernel) (da_cons (d_val (df_comp (own := [("_law_k", 4)]) rfl sc__law_dice.nd (di_rng1 rfl T.b_range (dv 2)) (blkOk_by (N := ["_law_script", "_law_town", "_law_many", "_law_faces", "_law_k"]) (sc := defScope s__law_dice) (by decide +kernel)) (by decide) (fun _ _ _ _ _ => (dg_name (i := 4) sc__law_dice.nd rfl (by first | exact Or.inl rfl | exact Or.inr rfl))) (fun _ _ _ _ _ => dts_nil) (fun _ _ _ _ _ => (d_call c__law_die takes0 hr (by decide) rfl (da_cons (dv 0) (da_cons (dv 1) (da_cons (d_op addF_ok addF_ne d_int (d_call c__law_draw takes0 hr (by decide) rfl (da_cons (dv 0) (da_cons (dv 1) (da_cons (dv 3) da_nil))))) (da_cons d_int da_nil)))))))) da_nil))))
theorem cal__law_ask (T : Txt K mg DE) : Cal P w K mg base 5 "_law_ask" F__law_ask := by
  have c_read := cal_read (P := P) (w := w) (base := base) T
  have wh := wh_all (P := P) (w := w) (base := base) T
  refine cal_of T.f__law_ask sc__law_ask ref__law_ask (fun f cdv A outer s H E hr => ?_)
  have hu := hr.units
  exact (dss_one (ds_try (i := 1) (idx := idx) rfl rfl sc__law_ask.nd rfl rfl ⟨rfl, by decide, .inl T.g_DiceError⟩ (takes_of rfl rfl rfl rfl) (hr.mono (j := 1) (by decide)) wh (fun W2 pn2 xe2 tk2 pas2 => (dss_one (ds_ret (d_call c_read tk2 hr (by decide) rfl (da_cons (dv 0) da_nil))))) (Or.inl rfl) rfl))
theorem cal__law_shown (T : Txt K mg DE) : Cal P w K mg base 1 "_law_shown" F__law_shown := by
  refine cal_of T.f__law_shown sc__law_shown ref__law_shown (fun f cdv A outer s H E hr => ?_)
  have hu := hr.units
  exact (dss_cons (ds_set (i := 1) sc__law_shown.nd rfl (by first | exact Or.inl rfl | exact Or.inr rfl) d_str)
  (dss_cons (ds_for (passes_of rfl) rfl (di_enumT rfl T.b_enumerate (dv 0)) (dg_tup rfl (dgs_cons (dg_name (i := 2) sc__law_shown.nd rfl (by first | exact Or.inl rfl | exact Or.inr rfl)) (dgs_cons (dg_name (i := 3) sc__law_shown.nd rfl (by first | exact Or.inl rfl | exact Or.inr rfl)) dgs_nil))) (dss_cons (ds_set (i := 1) sc__law_shown.nd rfl (by first | exact Or.inl rfl | exact Or.inr rfl) (d_op addF_ok addF_ne (dv 1) (d_op mulSF_ok mulSF_ne d_str (d_ct int_ok lift1_ne rfl T.b_int (by decide +kernel) (da_cons (d_cmp gtF_ok gtF_ne (dv 2) d_int (nomark _)) da_nil)))))
  (dss_one (ds_for (passes_of rfl) rfl (di_enumT rfl T.b_enumerate (dv 3)) (dg_tup rfl (dgs_cons (dg_name (i := 4) sc__law_shown.nd rfl (by first | exact Or.inl rfl | exact Or.inr rfl)) (dgs_cons (dg_name (i := 5) sc__law_shown.nd rfl (by first | exact Or.inl rfl | exact Or.inr rfl)) dgs_nil))) (dss_one (ds_set (i := 1) sc__law_shown.nd rfl (by first | exact Or.inl rfl | exact Or.inr rfl) (d_op addF_ok addF_ne (d_op addF_ok addF_ne (dv 1) (d_op mulSF_ok mulSF_ne d_str (d_ct int_ok lift1_ne rfl T.b_int (by decide +kernel) (da_cons (d_cmp gtF_ok gtF_ne (dv 4) d_int (nomark _)) da_nil)))) (d_ct str_ok lift1_ne rfl T.b_str (by decide +kernel) (da_cons (dv 5) da_nil)))))))))
  (dss_one (ds_ret (dv 1)))))
theorem ok_law (T : Txt K mg DE) {f0 : Addr} {fd : FuncData} (Fu : Fun K "law" "law" s_law f0 fd) : FnOk P w K mg base (L2.CX P w) 7 f0 fd ["_law_script"] (spD K mg B_law) := by
  have c__law_dice := cal__law_dice (P := P) (w := w) (base := base) T
  have c__law_draw := cal__law_draw (P := P) (w := w) (base := base) T
  have c_shown := cal_shown (P := P) (w := w) (base := base) T
  have c__law_shown := cal__law_shown (P := P) (w := w) (base := base) T
  have c__law_ask := cal__law_ask (P := P) (w := w) (base := base) T
  have c__law_pick := cal__law_pick (P := P) (w := w) (base := base) T
  refine fn_d Fu sc_law (fun cdv A outer s H E hr => ?_)
  have hu := hr.units
  exact (dss_cons (ds_set (i := 1) sc_law.nd rfl (by first | exact Or.inl rfl | exact Or.inr rfl) (d_new (df_lst da_nil)))
  (dss_cons (ds_set (i := 2) sc_law.nd rfl (by first | exact Or.inl rfl | exact Or.inr rfl) (d_call c__law_dice (takes_of rfl rfl rfl rfl) hr (by decide) rfl (da_cons (dv 0) (da_cons (dv 1) (da_cons (d_op addF_ok addF_ne d_int (d_call c__law_draw (takes_of rfl rfl rfl rfl) hr (by decide) rfl (da_cons (dv 0) (da_cons (dv 1) (da_cons d_int da_nil))))) (da_cons d_int da_nil))))))
  (dss_cons (ds_set (i := 3) sc_law.nd rfl (by first | exact Or.inl rfl | exact Or.inr rfl) (d_call c_shown (takes_of rfl rfl rfl rfl) hr (by decide) rfl (da_cons (dv 2) da_nil)))
  (dss_cons (ds_ifS (PW.pt (dw_or (dt_cmp (neF_ok hu) neF_ne (dv 3) (d_call c__law_shown (takes_of rfl rfl rfl rfl) hr (by decide) rfl (da_cons (dv 2) da_nil)) (nomark _)) (dw_or1 (dt_cmp (neF_ok hu) neF_ne (d_call c__law_ask (takes_of rfl rfl rfl rfl) hr (by decide) rfl (da_cons (dv 3) da_nil)) (dv 2) (nomark _))))) (dss_one (ds_ret d_bl)) dss_nil)
  (dss_cons (ds_set (i := 4) sc_law.nd rfl (by first | exact Or.inl rfl | exact Or.inr rfl) (d_call c__law_draw (takes_of rfl rfl rfl rfl) hr (by decide) rfl (da_cons (dv 0) (da_cons (dv 1) (da_cons (d_op addF_ok addF_ne (d_cb len_ok lift1_ne rfl T.b_len (by decide +kernel) (da_cons (dv 3) da_nil)) d_int) da_nil)))))
  (dss_cons (ds_set (i := 5) sc_law.nd rfl (by first | exact Or.inl rfl | exact Or.inr rfl) (d_call c__law_pick (takes_of rfl rfl rfl rfl) hr (by decide) rfl (da_cons (dv 0) (da_cons (dv 1) (da_cons (d_val (df_lst (da_cons d_str (da_cons d_str (da_cons d_str (da_cons d_str (da_cons d_str (da_cons d_str (da_cons d_str (da_cons d_str (da_cons d_str (da_cons d_str da_nil)))))))))))) da_nil)))))
  (dss_cons (ds_set (i := 6) sc_law.nd rfl (by first | exact Or.inl rfl | exact Or.inr rfl) (d_op addF_ok addF_ne (d_op addF_ok addF_ne (d_slice (dv 3) do_none (do_some (dv 4))) (dv 5)) (d_slice (dv 3) (do_some (d_op addF_ok addF_ne (dv 4) (d_call c__law_draw (takes_of rfl rfl rfl rfl) hr (by decide) rfl (da_cons (dv 0) (da_cons (dv 1) (da_cons d_int da_nil)))))) do_none)))
  (dss_cons (ds_set (i := 7) sc_law.nd rfl (by first | exact Or.inl rfl | exact Or.inr rfl) (d_call c__law_ask (takes_of rfl rfl rfl rfl) hr (by decide) rfl (da_cons (dv 6) da_nil)))
  (dss_cons (ds_ifS (PW.pt (dw_and (dt_cmp (neF_ok hu) neF_ne (dv 7) (d_tup (da_cons d_str (da_cons d_int da_nil))) (nomark _)) (dw_and1 (dt_cmp (neF_ok hu) neF_ne (d_call c__law_shown (takes_of rfl rfl rfl rfl) hr (by decide) rfl (da_cons (dv 7) da_nil)) (dv 6) (nomark _))))) (dss_one (ds_ret d_bl)) dss_nil)
  (dss_cons (ds_set (i := 8) sc_law.nd rfl (by first | exact Or.inl rfl | exact Or.inr rfl) (d_new (df_lst da_nil)))
  (dss_cons (ds_for (passes_of rfl) rfl (di_list (d_split (dv 6) d_str)) (dg_name (i := 9) sc_law.nd rfl (by first | exact Or.inl rfl | exact Or.inr rfl)) (dss_cons (ds_setLc (i := 10) (own := [("_law_face", 15)]) rfl sc_law.nd rfl rfl (sw_true rfl rfl rfl (by decide +kernel)) (di_list (d_split (dv 9) d_str)) (blkOk_by (N := ["_law_script", "_law_town", "_law_dice_here", "_law_text", "_law_at", "_law_sign", "_law_spoilt", "_law_found", "_law_good", "_law_word", "_law_die_here", "_law_known", "_law_fits", "_law_numbers", "_law_odd", "_law_face", "_law_count_of"]) (sc := defScope s_law) (by decide +kernel)) (by decide) (fun _ _ _ _ _ => (dg_name (i := 15) sc_law.nd rfl (by first | exact Or.inl rfl | exact Or.inr rfl))) (fun _ _ _ _ _ => dts_nil) (fun _ _ _ _ _ => (dv 15)))
  (dss_cons (ds_set (i := 11) sc_law.nd rfl (by first | exact Or.inl rfl | exact Or.inr rfl) (d_val (df_comp (own := [("_law_count_of", 16)]) rfl sc_law.nd (di_rng1 rfl T.b_range d_int) (blkOk_by (N := ["_law_script", "_law_town", "_law_dice_here", "_law_text", "_law_at", "_law_sign", "_law_spoilt", "_law_found", "_law_good", "_law_word", "_law_die_here", "_law_known", "_law_fits", "_law_numbers", "_law_odd", "_law_face", "_law_count_of"]) (sc := defScope s_law) (by decide +kernel)) (by decide) (fun _ _ _ _ _ => (dg_name (i := 16) sc_law.nd rfl (by first | exact Or.inl rfl | exact Or.inr rfl))) (fun _ _ _ _ _ => dts_nil) (fun _ _ _ _ _ => (d_ct str_ok lift1_ne rfl T.b_str (by decide +kernel) (da_cons (dv 16) da_nil))))))
  (dss_cons (ds_set (i := 12) sc_law.nd rfl (by first | exact Or.inl rfl | exact Or.inr rfl) (d_and (d_cmp leF_ok leF_ne (d_cb len_ok lift1_ne rfl T.b_len (by decide +kernel) (da_cons (dv 10) da_nil)) d_int (nomark _)) (d_one (d_cb (all_ok rfl) lift1_ne rfl T.b_all (by decide +kernel) (da_cons (d_val (df_comp (own := [("_law_face", 15)]) rfl sc_law.nd (di_list (dv 10)) (blkOk_by (N := ["_law_script", "_law_town", "_law_dice_here", "_law_text", "_law_at", "_law_sign", "_law_spoilt", "_law_found", "_law_good", "_law_word", "_law_die_here", "_law_known", "_law_fits", "_law_numbers", "_law_odd", "_law_face", "_law_count_of"]) (sc := defScope s_law) (by decide +kernel)) (by decide) (fun _ _ _ _ _ => (dg_name (i := 15) sc_law.nd rfl (by first | exact Or.inl rfl | exact Or.inr rfl))) (fun _ _ _ _ _ => dts_nil) (fun _ _ _ _ _ => (d_cmp inF_ok inF_ne (dv 15) (dv 11) (by rfl))))) da_nil)))))
  (dss_cons (ds_set (i := 13) sc_law.nd rfl (by first | exact Or.inl rfl | exact Or.inr rfl) (d_if (dt_val (dv 12)) (d_val (df_comp (own := [("_law_face", 15)]) rfl sc_law.nd (di_list (dv 10)) (blkOk_by (N := ["_law_script", "_law_town", "_law_dice_here", "_law_text", "_law_at", "_law_sign", "_law_spoilt", "_law_found", "_law_good", "_law_word", "_law_die_here", "_law_known", "_law_fits", "_law_numbers", "_law_odd", "_law_face", "_law_count_of"]) (sc := defScope s_law) (by decide +kernel)) (by decide) (fun _ _ _ _ _ => (dg_name (i := 15) sc_law.nd rfl (by first | exact Or.inl rfl | exact Or.inr rfl))) (fun _ _ _ _ _ => dts_nil) (fun _ _ _ _ _ => (d_ct intT_ok lift1_ne rfl T.b_int (by decide +kernel) (da_cons (dv 15) da_nil))))) (d_val (df_lst (da_cons d_int (da_cons d_int da_nil))))))
  (dss_one (ds_expr (d_bm PySem.F.plainAttrs_list PySem.F.slot_list_append PySem.F.type_list_append append_ok appendF_ne chkL_ok (dv 8) (da_cons (d_cmp (eqF_ok hu) eqF_ne (dv 13) (d_cb (sorted_ok hr) lift1_ne rfl T.b_sorted (by decide +kernel) (da_cons (dv 13) da_nil)) (nomark _)) da_nil)))))))))
  (dss_cons (ds_ifS (dt_cmp (neF_ok hu) neF_ne (d_cmp (neF_ok hu) neF_ne (dv 7) (d_tup (da_cons d_str (da_cons d_int da_nil))) (nomark _)) (d_and (d_cb (all_ok rfl) lift1_ne rfl T.b_all (by decide +kernel) (da_cons (dv 8) da_nil)) (d_one (d_cmp leF_ok leF_ne (d_cb len_ok lift1_ne rfl T.b_len (by decide +kernel) (da_cons (dv 8) da_nil)) d_int (nomark _)))) (nomark _)) (dss_one (ds_ret d_bl)) dss_nil)
  (dss_cons (ds_set (i := 14) sc_law.nd rfl (by first | exact Or.inl rfl | exact Or.inr rfl) (d_call c__law_pick (takes_of rfl rfl rfl rfl) hr (by decide) rfl (da_cons (dv 0) (da_cons (dv 1) (da_cons (d_val (df_lst (da_cons d_non (da_cons d_str (da_cons d_str (da_cons d_str (da_cons d_str (da_cons d_int (da_cons (d_val (df_lst (da_cons d_str da_nil))) (da_cons d_str (da_cons d_str (da_cons d_str (da_cons d_str da_nil))))))))))))) da_nil)))))
  (dss_one (ds_ret (d_cmp (eqF_ok hu) eqF_ne (d_call c__law_ask (takes_of rfl rfl rfl rfl) hr (by decide) rfl (da_cons (dv 14) da_nil)) (d_tup (da_cons d_str (da_cons d_int da_nil))) (nomark _)))))))))))))))))
end
/-! the end -/
section
theorem all_mk {P : Program} {w : World} {K : PySem.W.Frag} {h : Heap} {mg : Str → Option Value} {fa : Addr} (X : K.In h) (G : h.Ns mainGlobals mg) (hfa : mg "law" = some (.ref fa))
    {t_DICE : Tok}
    {t_FACE : Tok}
    {t_FACES : Tok}
    {t_FIGURES : Tok}
    {CDiceError : Addr}
    {CNoDice : Addr}
    {CNoDie : Addr}
    {CNoNumber : Addr}
    {CNoText : Addr}
    {CNoTotals : Addr}
    {CTooMany : Addr}
    {f_is_whole : Addr} {od_is_whole an_is_whole : Option Addr} {sl_is_whole : Array (Option Value)} {oc_is_whole kV_is_whole dc_is_whole pm_is_whole cd_is_whole ct_is_whole : Value}
    {f_is_die : Addr} {od_is_die an_is_die : Option Addr} {sl_is_die : Array (Option Value)} {oc_is_die kV_is_die dc_is_die pm_is_die cd_is_die ct_is_die : Value}
    {f_are_dice : Addr} {od_are_dice an_are_dice : Option Addr} {sl_are_dice : Array (Option Value)} {oc_are_dice kV_are_dice dc_are_dice pm_are_dice cd_are_dice ct_are_dice : Value}
    {f_need_dice : Addr} {od_need_dice an_need_dice : Option Addr} {sl_need_dice : Array (Option Value)} {oc_need_dice kV_need_dice dc_need_dice pm_need_dice cd_need_dice ct_need_dice : Value}
    {f_text_of : Addr} {od_text_of an_text_of : Option Addr} {sl_text_of : Array (Option Value)} {oc_text_of kV_text_of dc_text_of pm_text_of cd_text_of ct_text_of : Value}
    {f_shown : Addr} {od_shown an_shown : Option Addr} {sl_shown : Array (Option Value)} {oc_shown kV_shown dc_shown pm_shown cd_shown ct_shown : Value}
    {f_number : Addr} {od_number an_number : Option Addr} {sl_number : Array (Option Value)} {oc_number kV_number dc_number pm_number cd_number ct_number : Value}
    {f_read : Addr} {od_read an_read : Option Addr} {sl_read : Array (Option Value)} {oc_read kV_read dc_read pm_read cd_read ct_read : Value}
    {f__law_cell_at : Addr} {od__law_cell_at an__law_cell_at : Option Addr} {sl__law_cell_at : Array (Option Value)} {oc__law_cell_at kV__law_cell_at dc__law_cell_at pm__law_cell_at cd__law_cell_at ct__law_cell_at : Value}
    {f__law_mixed : Addr} {od__law_mixed an__law_mixed : Option Addr} {sl__law_mixed : Array (Option Value)} {oc__law_mixed kV__law_mixed dc__law_mixed pm__law_mixed cd__law_mixed ct__law_mixed : Value}
    {f__law_draw : Addr} {od__law_draw an__law_draw : Option Addr} {sl__law_draw : Array (Option Value)} {oc__law_draw kV__law_draw dc__law_draw pm__law_draw cd__law_draw ct__law_draw : Value}
    {f__law_pick : Addr} {od__law_pick an__law_pick : Option Addr} {sl__law_pick : Array (Option Value)} {oc__law_pick kV__law_pick dc__law_pick pm__law_pick cd__law_pick ct__law_pick : Value}
    {f__law_die : Addr} {od__law_die an__law_die : Option Addr} {sl__law_die : Array (Option Value)} {oc__law_die kV__law_die dc__law_die pm__law_die cd__law_die ct__law_die : Value}
    {f__law_dice : Addr} {od__law_dice an__law_dice : Option Addr} {sl__law_dice : Array (Option Value)} {oc__law_dice kV__law_dice dc__law_dice pm__law_dice cd__law_dice ct__law_dice : Value}
    {f__law_ask : Addr} {od__law_ask an__law_ask : Option Addr} {sl__law_ask : Array (Option Value)} {oc__law_ask kV__law_ask dc__law_ask pm__law_ask cd__law_ask ct__law_ask : Value}
    {f__law_shown : Addr} {od__law_shown an__law_shown : Option Addr} {sl__law_shown : Array (Option Value)} {oc__law_shown kV__law_shown dc__law_shown pm__law_shown cd__law_shown ct__law_shown : Value}
    {f_law : Addr} {od_law an_law : Option Addr} {sl_law : Array (Option Value)} {oc_law kV_law dc_law pm_law cd_law ct_law : Value}
    {f__law_which : Addr} {od__law_which an__law_which : Option Addr} {sl__law_which : Array (Option Value)} {oc__law_which kV__law_which dc__law_which pm__law_which cd__law_which ct__law_which : Value}
    (z_ValueError : PySem.W.nsIn K mainGlobals "ValueError" = some none)
    (z_all : PySem.W.nsIn K mainGlobals "all" = some none)
    (z_bool : PySem.W.nsIn K mainGlobals "bool" = some none)
    (z_enumerate : PySem.W.nsIn K mainGlobals "enumerate" = some none)
    (z_int : PySem.W.nsIn K mainGlobals "int" = some none)
    (z_isinstance : PySem.W.nsIn K mainGlobals "isinstance" = some none)
    (z_len : PySem.W.nsIn K mainGlobals "len" = some none)
    (z_list : PySem.W.nsIn K mainGlobals "list" = some none)
    (z_min : PySem.W.nsIn K mainGlobals "min" = some none)
    (z_range : PySem.W.nsIn K mainGlobals "range" = some none)
    (z_sorted : PySem.W.nsIn K mainGlobals "sorted" = some none)
    (z_str : PySem.W.nsIn K mainGlobals "str" = some none)
    (z_tuple : PySem.W.nsIn K mainGlobals "tuple" = some none)
    (k_DICE : PySem.W.nsIn K mainGlobals "DICE" = some (some (.int 4 t_DICE)))
    (k_FACE : PySem.W.nsIn K mainGlobals "FACE" = some (some (.int 30 t_FACE)))
    (k_FACES : PySem.W.nsIn K mainGlobals "FACES" = some (some (.int 8 t_FACES)))
    (k_FIGURES : PySem.W.nsIn K mainGlobals "FIGURES" = some (some (.str "0123456789" t_FIGURES)))
    (a_DiceError : PySem.W.nsIn K mainGlobals "DiceError" = some (some (.ref CDiceError)))
    (a_NoDice : PySem.W.nsIn K mainGlobals "NoDice" = some (some (.ref CNoDice)))
    (a_NoDie : PySem.W.nsIn K mainGlobals "NoDie" = some (some (.ref CNoDie)))
    (a_NoNumber : PySem.W.nsIn K mainGlobals "NoNumber" = some (some (.ref CNoNumber)))
    (a_NoText : PySem.W.nsIn K mainGlobals "NoText" = some (some (.ref CNoText)))
    (a_NoTotals : PySem.W.nsIn K mainGlobals "NoTotals" = some (some (.ref CNoTotals)))
    (a_TooMany : PySem.W.nsIn K mainGlobals "TooMany" = some (some (.ref CTooMany)))
    (x1_NoDice : PySem.W.excIn K CNoDice [.type "ValueError", .type "Exception", .type "BaseException", .type "object"] "ValueError.__new__" = true)
    (x2_NoDice : PySem.W.keepIn K (.ref CNoDice) = true)
    (x3_NoDice : PySem.W.subIn K (.ref CNoDice) (.type "BaseException") = some true)
    (x4_NoDice : PySem.W.typeIn K (.ref CNoDice) = some (.type "type"))
    (x1_NoText : PySem.W.excIn K CNoText [.type "ValueError", .type "Exception", .type "BaseException", .type "object"] "ValueError.__new__" = true)
    (x2_NoText : PySem.W.keepIn K (.ref CNoText) = true)
    (x3_NoText : PySem.W.subIn K (.ref CNoText) (.type "BaseException") = some true)
    (x4_NoText : PySem.W.typeIn K (.ref CNoText) = some (.type "type"))
    (d1_is_whole : PySem.W.nsIn K mainGlobals "is_whole" = some (some (.ref f_is_whole)))
    (d2_is_whole : K.lookup f_is_whole = some ⟨oc_is_whole, od_is_whole, .func (PySem.W.fnOf "is_whole" "is_whole" (defArgs s_is_whole) (defBody s_is_whole) (defScope s_is_whole) .none kV_is_whole dc_is_whole pm_is_whole an_is_whole cd_is_whole ct_is_whole), sl_is_whole⟩)
    (d3_is_whole : PySem.W.codeIn K cd_is_whole "is_whole" = true)
    (d4_is_whole : PySem.W.keepIn K (.ref f_is_whole) = true)
    (d1_is_die : PySem.W.nsIn K mainGlobals "is_die" = some (some (.ref f_is_die)))
    (d2_is_die : K.lookup f_is_die = some ⟨oc_is_die, od_is_die, .func (PySem.W.fnOf "is_die" "is_die" (defArgs s_is_die) (defBody s_is_die) (defScope s_is_die) .none kV_is_die dc_is_die pm_is_die an_is_die cd_is_die ct_is_die), sl_is_die⟩)
    (d3_is_die : PySem.W.codeIn K cd_is_die "is_die" = true)
    (d4_is_die : PySem.W.keepIn K (.ref f_is_die) = true)
    (d1_are_dice : PySem.W.nsIn K mainGlobals "are_dice" = some (some (.ref f_are_dice)))
    (d2_are_dice : K.lookup f_are_dice = some ⟨oc_are_dice, od_are_dice, .func (PySem.W.fnOf "are_dice" "are_dice" (defArgs s_are_dice) (defBody s_are_dice) (defScope s_are_dice) .none kV_are_dice dc_are_dice pm_are_dice an_are_dice cd_are_dice ct_are_dice), sl_are_dice⟩)
    (d3_are_dice : PySem.W.codeIn K cd_are_dice "are_dice" = true)
    (d4_are_dice : PySem.W.keepIn K (.ref f_are_dice) = true)
    (d1_need_dice : PySem.W.nsIn K mainGlobals "need_dice" = some (some (.ref f_need_dice)))
    (d2_need_dice : K.lookup f_need_dice = some ⟨oc_need_dice, od_need_dice, .func (PySem.W.fnOf "need_dice" "need_dice" (defArgs s_need_dice) (defBody s_need_dice) (defScope s_need_dice) .none kV_need_dice dc_need_dice pm_need_dice an_need_dice cd_need_dice ct_need_dice), sl_need_dice⟩)
    (d3_need_dice : PySem.W.codeIn K cd_need_dice "need_dice" = true)
    (d4_need_dice : PySem.W.keepIn K (.ref f_need_dice) = true)
    (d1_text_of : PySem.W.nsIn K mainGlobals "text_of" = some (some (.ref f_text_of)))
    (d2_text_of : K.lookup f_text_of = some ⟨oc_text_of, od_text_of, .func (PySem.W.fnOf "text_of" "text_of" (defArgs s_text_of) (defBody s_text_of) (defScope s_text_of) .none kV_text_of dc_text_of pm_text_of an_text_of cd_text_of ct_text_of), sl_text_of⟩)
    (d3_text_of : PySem.W.codeIn K cd_text_of "text_of" = true)
    (d4_text_of : PySem.W.keepIn K (.ref f_text_of) = true)
    (d1_shown : PySem.W.nsIn K mainGlobals "shown" = some (some (.ref f_shown)))
    (d2_shown : K.lookup f_shown = some ⟨oc_shown, od_shown, .func (PySem.W.fnOf "shown" "shown" (defArgs s_shown) (defBody s_shown) (defScope s_shown) .none kV_shown dc_shown pm_shown an_shown cd_shown ct_shown), sl_shown⟩)
    (d3_shown : PySem.W.codeIn K cd_shown "shown" = true)
    (d4_shown : PySem.W.keepIn K (.ref f_shown) = true)
    (d1_number : PySem.W.nsIn K mainGlobals "number" = some (some (.ref f_number)))
    (d2_number : K.lookup f_number = some ⟨oc_number, od_number, .func (PySem.W.fnOf "number" "number" (defArgs s_number) (defBody s_number) (defScope s_number) .none kV_number dc_number pm_number an_number cd_number ct_number), sl_number⟩)
    (d3_number : PySem.W.codeIn K cd_number "number" = true)
    (d4_number : PySem.W.keepIn K (.ref f_number) = true)
    (d1_read : PySem.W.nsIn K mainGlobals "read" = some (some (.ref f_read)))
    (d2_read : K.lookup f_read = some ⟨oc_read, od_read, .func (PySem.W.fnOf "read" "read" (defArgs s_read) (defBody s_read) (defScope s_read) .none kV_read dc_read pm_read an_read cd_read ct_read), sl_read⟩)
    (d3_read : PySem.W.codeIn K cd_read "read" = true)
    (d4_read : PySem.W.keepIn K (.ref f_read) = true)
    (d1__law_cell_at : PySem.W.nsIn K mainGlobals "_law_cell_at" = some (some (.ref f__law_cell_at)))
    (d2__law_cell_at : K.lookup f__law_cell_at = some ⟨oc__law_cell_at, od__law_cell_at, .func (PySem.W.fnOf "_law_cell_at" "_law_cell_at" (defArgs s__law_cell_at) (defBody s__law_cell_at) (defScope s__law_cell_at) .none kV__law_cell_at dc__law_cell_at pm__law_cell_at an__law_cell_at cd__law_cell_at ct__law_cell_at), sl__law_cell_at⟩)
    (d3__law_cell_at : PySem.W.codeIn K cd__law_cell_at "_law_cell_at" = true)
    (d4__law_cell_at : PySem.W.keepIn K (.ref f__law_cell_at) = true)
    (d1__law_mixed : PySem.W.nsIn K mainGlobals "_law_mixed" = some (some (.ref f__law_mixed)))
    (d2__law_mixed : K.lookup f__law_mixed = some ⟨oc__law_mixed, od__law_mixed, .func (PySem.W.fnOf "_law_mixed" "_law_mixed" (defArgs s__law_mixed) (defBody s__law_mixed) (defScope s__law_mixed) .none kV__law_mixed dc__law_mixed pm__law_mixed an__law_mixed cd__law_mixed ct__law_mixed), sl__law_mixed⟩)
    (d3__law_mixed : PySem.W.codeIn K cd__law_mixed "_law_mixed" = true)
    (d4__law_mixed : PySem.W.keepIn K (.ref f__law_mixed) = true)
    (d1__law_draw : PySem.W.nsIn K mainGlobals "_law_draw" = some (some (.ref f__law_draw)))
    (d2__law_draw : K.lookup f__law_draw = some ⟨oc__law_draw, od__law_draw, .func (PySem.W.fnOf "_law_draw" "_law_draw" (defArgs s__law_draw) (defBody s__law_draw) (defScope s__law_draw) .none kV__law_draw dc__law_draw pm__law_draw an__law_draw cd__law_draw ct__law_draw), sl__law_draw⟩)
    (d3__law_draw : PySem.W.codeIn K cd__law_draw "_law_draw" = true)
    (d4__law_draw : PySem.W.keepIn K (.ref f__law_draw) = true)
    (d1__law_pick : PySem.W.nsIn K mainGlobals "_law_pick" = some (some (.ref f__law_pick)))
    (d2__law_pick : K.lookup f__law_pick = some ⟨oc__law_pick, od__law_pick, .func (PySem.W.fnOf "_law_pick" "_law_pick" (defArgs s__law_pick) (defBody s__law_pick) (defScope s__law_pick) .none kV__law_pick dc__law_pick pm__law_pick an__law_pick cd__law_pick ct__law_pick), sl__law_pick⟩)
    (d3__law_pick : PySem.W.codeIn K cd__law_pick "_law_pick" = true)
    (d4__law_pick : PySem.W.keepIn K (.ref f__law_pick) = true)
    (d1__law_die : PySem.W.nsIn K mainGlobals "_law_die" = some (some (.ref f__law_die)))
    (d2__law_die : K.lookup f__law_die = some ⟨oc__law_die, od__law_die, .func (PySem.W.fnOf "_law_die" "_law_die" (defArgs s__law_die) (defBody s__law_die) (defScope s__law_die) .none kV__law_die dc__law_die pm__law_die an__law_die cd__law_die ct__law_die), sl__law_die⟩)
    (d3__law_die : PySem.W.codeIn K cd__law_die "_law_die" = true)
    (d4__law_die : PySem.W.keepIn K (.ref f__law_die) = true)
    (d1__law_dice : PySem.W.nsIn K mainGlobals "_law_dice" = some (some (.ref f__law_dice)))
    (d2__law_dice : K.lookup f__law_dice = some ⟨oc__law_dice, od__law_dice, .func (PySem.W.fnOf "_law_dice" "_law_dice" (defArgs s__law_dice) (defBody s__law_dice) (defScope s__law_dice) .none kV__law_dice dc__law_dice pm__law_dice an__law_dice cd__law_dice ct__law_dice), sl__law_dice⟩)
    (d3__law_dice : PySem.W.codeIn K cd__law_dice "_law_dice" = true)
    (d4__law_dice : PySem.W.keepIn K (.ref f__law_dice) = true)
    (d1__law_ask : PySem.W.nsIn K mainGlobals "_law_ask" = some (some (.ref f__law_ask)))
    (d2__law_ask : K.lookup f__law_ask = some ⟨oc__law_ask, od__law_ask, .func (PySem.W.fnOf "_law_ask" "_law_ask" (defArgs s__law_ask) (defBody s__law_ask) (defScope s__law_ask) .none kV__law_ask dc__law_ask pm__law_ask an__law_ask cd__law_ask ct__law_ask), sl__law_ask⟩)
    (d3__law_ask : PySem.W.codeIn K cd__law_ask "_law_ask" = true)
    (d4__law_ask : PySem.W.keepIn K (.ref f__law_ask) = true)
    (d1__law_shown : PySem.W.nsIn K mainGlobals "_law_shown" = some (some (.ref f__law_shown)))
    (d2__law_shown : K.lookup f__law_shown = some ⟨oc__law_shown, od__law_shown, .func (PySem.W.fnOf "_law_shown" "_law_shown" (defArgs s__law_shown) (defBody s__law_shown) (defScope s__law_shown) .none kV__law_shown dc__law_shown pm__law_shown an__law_shown cd__law_shown ct__law_shown), sl__law_shown⟩)
    (d3__law_shown : PySem.W.codeIn K cd__law_shown "_law_shown" = true)
    (d4__law_shown : PySem.W.keepIn K (.ref f__law_shown) = true)
    (d1_law : PySem.W.nsIn K mainGlobals "law" = some (some (.ref f_law)))
    (d2_law : K.lookup f_law = some ⟨oc_law, od_law, .func (PySem.W.fnOf "law" "law" (defArgs s_law) (defBody s_law) (defScope s_law) .none kV_law dc_law pm_law an_law cd_law ct_law), sl_law⟩)
    (d3_law : PySem.W.codeIn K cd_law "law" = true)
    (d4_law : PySem.W.keepIn K (.ref f_law) = true)
    (d1__law_which : PySem.W.nsIn K mainGlobals "_law_which" = some (some (.ref f__law_which)))
    (d2__law_which : K.lookup f__law_which = some ⟨oc__law_which, od__law_which, .func (PySem.W.fnOf "_law_which" "_law_which" (defArgs s__law_which) (defBody s__law_which) (defScope s__law_which) .none kV__law_which dc__law_which pm__law_which an__law_which cd__law_which ct__law_which), sl__law_which⟩)
    (d3__law_which : PySem.W.codeIn K cd__law_which "_law_which" = true)
    (d4__law_which : PySem.W.keepIn K (.ref f__law_which) = true)
    (u1 : PySem.W.subIn K (.ref CDiceError) (.type "BaseException") = some true)
    (u2 : PySem.W.hasDictIn K CDiceError = true)
    (u3 : PySem.W.typeIn K (.ref CDiceError) = some (.type "type"))
    (u4 : PySem.W.specialIn K (.builtin "object.__class__") "__get__" = some (some (.builtin "getset_descriptor.__get__")))
    (u5 : PySem.W.takesIn K (.builtin "object.__class__") = some true)
    (e1_NoDice : PySem.W.findIn K (.ref CNoDice) "__getattribute__" = some (some (.builtin "BaseException.__getattribute__")))
    (e2_NoDice : PySem.W.findIn K (.ref CNoDice) "__getattr__" = some none)
    (e3_NoDice : PySem.W.hasDictIn K CNoDice = true)
    (e4_NoDice : PySem.W.findIn K (.ref CNoDice) "__class__" = some (some (.builtin "object.__class__")))
    (e5_NoDice : PySem.W.mroIn K CNoDice (.type "object") = some true)
    (e6_NoDice : PySem.W.kitOne K (.ref CNoDice) (.type "ValueError") = some true)
    (e7_NoDice : PySem.W.subIn K (.ref CNoDice) (.ref CDiceError) = some true)
    (i_NoDice_NoDie : PySem.W.kitOne K (.ref CNoDice) (.ref CNoDie) = some false)
    (i_NoDice_NoDice : PySem.W.kitOne K (.ref CNoDice) (.ref CNoDice) = some true)
    (i_NoDice_NoTotals : PySem.W.kitOne K (.ref CNoDice) (.ref CNoTotals) = some false)
    (i_NoDice_NoNumber : PySem.W.kitOne K (.ref CNoDice) (.ref CNoNumber) = some false)
    (i_NoDice_TooMany : PySem.W.kitOne K (.ref CNoDice) (.ref CTooMany) = some false)
    (i_NoDice_NoText : PySem.W.kitOne K (.ref CNoDice) (.ref CNoText) = some false)
    (e1_NoText : PySem.W.findIn K (.ref CNoText) "__getattribute__" = some (some (.builtin "BaseException.__getattribute__")))
    (e2_NoText : PySem.W.findIn K (.ref CNoText) "__getattr__" = some none)
    (e3_NoText : PySem.W.hasDictIn K CNoText = true)
    (e4_NoText : PySem.W.findIn K (.ref CNoText) "__class__" = some (some (.builtin "object.__class__")))
    (e5_NoText : PySem.W.mroIn K CNoText (.type "object") = some true)
    (e6_NoText : PySem.W.kitOne K (.ref CNoText) (.type "ValueError") = some true)
    (e7_NoText : PySem.W.subIn K (.ref CNoText) (.ref CDiceError) = some true)
    (i_NoText_NoDie : PySem.W.kitOne K (.ref CNoText) (.ref CNoDie) = some false)
    (i_NoText_NoDice : PySem.W.kitOne K (.ref CNoText) (.ref CNoDice) = some false)
    (i_NoText_NoTotals : PySem.W.kitOne K (.ref CNoText) (.ref CNoTotals) = some false)
    (i_NoText_NoNumber : PySem.W.kitOne K (.ref CNoText) (.ref CNoNumber) = some false)
    (i_NoText_TooMany : PySem.W.kitOne K (.ref CNoText) (.ref CTooMany) = some false)
    (i_NoText_NoText : PySem.W.kitOne K (.ref CNoText) (.ref CNoText) = some true)
    : ∃ fd : FuncData, (∀ (s : Shared) (v : Value), BindsTo s fd ⟨[v], []⟩ [("_law_script", v)]) ∧ ∀ base : Heap, K.In base → base.Ns mainGlobals mg → FnOk P w K mg base (L2.CX P w) 7 fa fd ["_law_script"] (spLaw K) := by
  have e := hfa.symm.trans (PySem.W.mg_of X G d1_law)
  cases e
  have F_is_whole := fun_mk (st := s_is_whole) d2_is_whole d3_is_whole d4_is_whole
  have b_is_whole := F_is_whole.binds (ps := ["thing", "low", "most"]) fun _ _ _ _ _ _ us hl => match us, hl with | [_, _, _], _ => rfl
  have F_is_die := fun_mk (st := s_is_die) d2_is_die d3_is_die d4_is_die
  have b_is_die := F_is_die.binds (ps := ["thing"]) fun _ _ _ _ _ _ us hl => match us, hl with | [_], _ => rfl
  have F_are_dice := fun_mk (st := s_are_dice) d2_are_dice d3_are_dice d4_are_dice
  have b_are_dice := F_are_dice.binds (ps := ["thing"]) fun _ _ _ _ _ _ us hl => match us, hl with | [_], _ => rfl
  have F_need_dice := fun_mk (st := s_need_dice) d2_need_dice d3_need_dice d4_need_dice
  have b_need_dice := F_need_dice.binds (ps := ["thing"]) fun _ _ _ _ _ _ us hl => match us, hl with | [_], _ => rfl
  have F_text_of := fun_mk (st := s_text_of) d2_text_of d3_text_of d4_text_of
  have b_text_of := F_text_of.binds (ps := ["dice"]) fun _ _ _ _ _ _ us hl => match us, hl with | [_], _ => rfl
  have F_shown := fun_mk (st := s_shown) d2_shown d3_shown d4_shown
  have b_shown := F_shown.binds (ps := ["dice"]) fun _ _ _ _ _ _ us hl => match us, hl with | [_], _ => rfl
  have F_number := fun_mk (st := s_number) d2_number d3_number d4_number
  have b_number := F_number.binds (ps := ["word"]) fun _ _ _ _ _ _ us hl => match us, hl with | [_], _ => rfl
  have F_read := fun_mk (st := s_read) d2_read d3_read d4_read
  have b_read := F_read.binds (ps := ["text"]) fun _ _ _ _ _ _ us hl => match us, hl with | [_], _ => rfl
  have F__law_cell_at := fun_mk (st := s__law_cell_at) d2__law_cell_at d3__law_cell_at d4__law_cell_at
  have b__law_cell_at := F__law_cell_at.binds (ps := ["_law_script", "_law_k"]) fun _ _ _ _ _ _ us hl => match us, hl with | [_, _], _ => rfl
  have F__law_mixed := fun_mk (st := s__law_mixed) d2__law_mixed d3__law_mixed d4__law_mixed
  have b__law_mixed := F__law_mixed.binds (ps := ["_law_script", "_law_k", "_law_many"]) fun _ _ _ _ _ _ us hl => match us, hl with | [_, _, _], _ => rfl
  have F__law_draw := fun_mk (st := s__law_draw) d2__law_draw d3__law_draw d4__law_draw
  have b__law_draw := F__law_draw.binds (ps := ["_law_script", "_law_town", "_law_many"]) fun _ _ _ _ _ _ us hl => match us, hl with | [_, _, _], _ => rfl
  have F__law_pick := fun_mk (st := s__law_pick) d2__law_pick d3__law_pick d4__law_pick
  have b__law_pick := F__law_pick.binds (ps := ["_law_script", "_law_town", "_law_some"]) fun _ _ _ _ _ _ us hl => match us, hl with | [_, _, _], _ => rfl
  have F__law_die := fun_mk (st := s__law_die) d2__law_die d3__law_die d4__law_die
  have b__law_die := F__law_die.binds (ps := ["_law_script", "_law_town", "_law_faces", "_law_most"]) fun _ _ _ _ _ _ us hl => match us, hl with | [_, _, _, _], _ => rfl
  have F__law_dice := fun_mk (st := s__law_dice) d2__law_dice d3__law_dice d4__law_dice
  have b__law_dice := F__law_dice.binds (ps := ["_law_script", "_law_town", "_law_many", "_law_faces"]) fun _ _ _ _ _ _ us hl => match us, hl with | [_, _, _, _], _ => rfl
  have F__law_ask := fun_mk (st := s__law_ask) d2__law_ask d3__law_ask d4__law_ask
  have b__law_ask := F__law_ask.binds (ps := ["_law_text"]) fun _ _ _ _ _ _ us hl => match us, hl with | [_], _ => rfl
  have F__law_shown := fun_mk (st := s__law_shown) d2__law_shown d3__law_shown d4__law_shown
  have b__law_shown := F__law_shown.binds (ps := ["_law_dice_here"]) fun _ _ _ _ _ _ us hl => match us, hl with | [_], _ => rfl
  have F_law := fun_mk (st := s_law) d2_law d3_law d4_law
  have b_law := F_law.binds (ps := ["_law_script"]) fun _ _ _ _ _ _ us hl => match us, hl with | [_], _ => rfl
  have F__law_which := fun_mk (st := s__law_which) d2__law_which d3__law_which d4__law_which
  have b__law_which := F__law_which.binds (ps := ["_law_e"]) fun _ _ _ _ _ _ us hl => match us, hl with | [_], _ => rfl
  have T : Txt K mg CDiceError := {
    b_ValueError := PySem.W.mg_none_of X G z_ValueError,
    b_all := PySem.W.mg_none_of X G z_all,
    b_bool := PySem.W.mg_none_of X G z_bool,
    b_enumerate := PySem.W.mg_none_of X G z_enumerate,
    b_int := PySem.W.mg_none_of X G z_int,
    b_isinstance := PySem.W.mg_none_of X G z_isinstance,
    b_len := PySem.W.mg_none_of X G z_len,
    b_list := PySem.W.mg_none_of X G z_list,
    b_min := PySem.W.mg_none_of X G z_min,
    b_range := PySem.W.mg_none_of X G z_range,
    b_sorted := PySem.W.mg_none_of X G z_sorted,
    b_str := PySem.W.mg_none_of X G z_str,
    b_tuple := PySem.W.mg_none_of X G z_tuple,
    k_DICE := ⟨_, PySem.W.mg_of X G k_DICE, _, rfl⟩,
    k_FACE := ⟨_, PySem.W.mg_of X G k_FACE, _, rfl⟩,
    k_FACES := ⟨_, PySem.W.mg_of X G k_FACES, _, rfl⟩,
    k_FIGURES := ⟨_, PySem.W.mg_of X G k_FIGURES, _, rfl⟩,
    x_NoDice := ⟨CNoDice, PySem.W.mg_of X G a_NoDice, x1_NoDice, x2_NoDice, x3_NoDice, x4_NoDice⟩,
    x_NoText := ⟨CNoText, PySem.W.mg_of X G a_NoText, x1_NoText, x2_NoText, x3_NoText, x4_NoText⟩,
    f_is_whole := ⟨f_is_whole, _, F_is_whole, PySem.W.mg_of X G d1_is_whole, b_is_whole⟩,
    f_is_die := ⟨f_is_die, _, F_is_die, PySem.W.mg_of X G d1_is_die, b_is_die⟩,
    f_are_dice := ⟨f_are_dice, _, F_are_dice, PySem.W.mg_of X G d1_are_dice, b_are_dice⟩,
    f_need_dice := ⟨f_need_dice, _, F_need_dice, PySem.W.mg_of X G d1_need_dice, b_need_dice⟩,
    f_text_of := ⟨f_text_of, _, F_text_of, PySem.W.mg_of X G d1_text_of, b_text_of⟩,
    f_shown := ⟨f_shown, _, F_shown, PySem.W.mg_of X G d1_shown, b_shown⟩,
    f_number := ⟨f_number, _, F_number, PySem.W.mg_of X G d1_number, b_number⟩,
    f_read := ⟨f_read, _, F_read, PySem.W.mg_of X G d1_read, b_read⟩,
    f__law_cell_at := ⟨f__law_cell_at, _, F__law_cell_at, PySem.W.mg_of X G d1__law_cell_at, b__law_cell_at⟩,
    f__law_mixed := ⟨f__law_mixed, _, F__law_mixed, PySem.W.mg_of X G d1__law_mixed, b__law_mixed⟩,
    f__law_draw := ⟨f__law_draw, _, F__law_draw, PySem.W.mg_of X G d1__law_draw, b__law_draw⟩,
    f__law_pick := ⟨f__law_pick, _, F__law_pick, PySem.W.mg_of X G d1__law_pick, b__law_pick⟩,
    f__law_die := ⟨f__law_die, _, F__law_die, PySem.W.mg_of X G d1__law_die, b__law_die⟩,
    f__law_dice := ⟨f__law_dice, _, F__law_dice, PySem.W.mg_of X G d1__law_dice, b__law_dice⟩,
    f__law_ask := ⟨f__law_ask, _, F__law_ask, PySem.W.mg_of X G d1__law_ask, b__law_ask⟩,
    f__law_shown := ⟨f__law_shown, _, F__law_shown, PySem.W.mg_of X G d1__law_shown, b__law_shown⟩,
    f_law := ⟨fa, _, F_law, PySem.W.mg_of X G d1_law, b_law⟩,
    f__law_which := ⟨f__law_which, _, F__law_which, PySem.W.mg_of X G d1__law_which, b__law_which⟩,
    g_DiceError := PySem.W.mg_of X G a_DiceError,
    e_NoDice := ⟨CNoDice, ⟨PySem.W.mg_of X G a_NoDice, ⟨e1_NoDice, e2_NoDice, x3_NoDice, e3_NoDice, e4_NoDice, u4, u5, e5_NoDice⟩, e6_NoDice, PySem.W.exm_ref u1 u2 u3 e7_NoDice⟩, ⟨CNoDie, PySem.W.mg_of X G a_NoDie, i_NoDice_NoDie⟩, ⟨CNoDice, PySem.W.mg_of X G a_NoDice, i_NoDice_NoDice⟩, ⟨CNoTotals, PySem.W.mg_of X G a_NoTotals, i_NoDice_NoTotals⟩, ⟨CNoNumber, PySem.W.mg_of X G a_NoNumber, i_NoDice_NoNumber⟩, ⟨CTooMany, PySem.W.mg_of X G a_TooMany, i_NoDice_TooMany⟩, ⟨CNoText, PySem.W.mg_of X G a_NoText, i_NoDice_NoText⟩⟩,
    e_NoText := ⟨CNoText, ⟨PySem.W.mg_of X G a_NoText, ⟨e1_NoText, e2_NoText, x3_NoText, e3_NoText, e4_NoText, u4, u5, e5_NoText⟩, e6_NoText, PySem.W.exm_ref u1 u2 u3 e7_NoText⟩, ⟨CNoDie, PySem.W.mg_of X G a_NoDie, i_NoText_NoDie⟩, ⟨CNoDice, PySem.W.mg_of X G a_NoDice, i_NoText_NoDice⟩, ⟨CNoTotals, PySem.W.mg_of X G a_NoTotals, i_NoText_NoTotals⟩, ⟨CNoNumber, PySem.W.mg_of X G a_NoNumber, i_NoText_NoNumber⟩, ⟨CTooMany, PySem.W.mg_of X G a_TooMany, i_NoText_TooMany⟩, ⟨CNoText, PySem.W.mg_of X G a_NoText, i_NoText_NoText⟩⟩ }
  refine ⟨PySem.W.fnOf "law" "law" (defArgs s_law) (defBody s_law) (defScope s_law) .none kV_law dc_law pm_law an_law cd_law ct_law, fun s v => .of_eq rfl, fun base _ _ => ?_⟩
  exact law_fn law_true (ok_law T F_law)
end
end Lw
namespace Lw
open PySem PySem.W PyProof.Rows L2
theorem to_end {l : OpenLaw} {q : Program} {loose : List Str} {XP : (Str → Option Value) → Heap → Prop} {YP : World → Heap → Prop} {d : DefRec} {K : Params → Frag} (hn : l.most = some 63) (hdf : d.params.defaults = [])
    (hY : ∀ (w : World) (h : Heap), YP w h → (K w.params).In h)
    (F : ∀ (w : World) (mg : Str → Option Value) (fa : Addr) (h : Heap), (K w.params).In h → h.Ns mainGlobals mg → mg d.name = some (.ref fa) →
      ∃ fd : FuncData, (∀ (s : Shared) (v : Value), BindsTo s fd ⟨[v], []⟩ [("_law_script", v)]) ∧ ∀ base : Heap, (K w.params).In base → base.Ns mainGlobals mg → FnOk l.prog w (K w.params) mg base (L2.CX l.prog w) 7 fa fd ["_law_script"] (DL.spLaw (K w.params))) :
    WalkO q loose XP YP l.row.toRowW d [] (fun f vs => PySem.call f vs) := by
  refine L2.walk_of (n := 63) (k := 7) (x := "_law_script") (CX := fun w => L2.CX l.prog w) (sp := fun w => DL.spLaw (K w.params)) hn (by decide) hdf ⟨rfl, by decide, by decide⟩ hY F (fun w H a ns hl ho hS => ⟨a, ns, rfl, hS, ho, hl, fun _ => rfl⟩) (fun w H s e t h => ?_)
  obtain ⟨_, _, _, _, _, _, _, _, _, _, _, _, z⟩ := h
  exact z
end Lw
open PySem PySem.W PyProof.Rows
set_option maxRecDepth 100000 in
set_option maxHeartbeats 0 in
theorem PySem.Challenge.cw_dicesums_k09_whole_texts_holds : PySem.Challenge.rw_dicesums_k09_whole_texts.Holds := by
  w_on; o_law; k_head; (case hw => w_witness2)
  k_fill
  refine Lw.to_end (l := PySem.Challenge.rw_dicesums_k09_whole_texts) rfl rfl (fun w h Y => kIn_of Y) ?F
  case F =>
    intro w mg fa h KX G hmg
    refine' Lw.all_mk KX G hmg ?z_ValueError ?z_all ?z_bool ?z_enumerate ?z_int ?z_isinstance ?z_len ?z_list ?z_min ?z_range ?z_sorted ?z_str ?z_tuple ?k_DICE ?k_FACE ?k_FACES ?k_FIGURES ?a_DiceError ?a_NoDice ?a_NoDie ?a_NoNumber ?a_NoText ?a_NoTotals ?a_TooMany ?x1_NoDice ?x2_NoDice ?x3_NoDice ?x4_NoDice ?x1_NoText ?x2_NoText ?x3_NoText ?x4_NoText ?d1_is_whole ?d2_is_whole ?d3_is_whole ?d4_is_whole ?d1_is_die ?d2_is_die ?d3_is_die ?d4_is_die ?d1_are_dice ?d2_are_dice ?d3_are_dice ?d4_are_dice ?d1_need_dice ?d2_need_dice ?d3_need_dice ?d4_need_dice ?d1_text_of ?d2_text_of ?d3_text_of ?d4_text_of ?d1_shown ?d2_shown ?d3_shown ?d4_shown ?d1_number ?d2_number ?d3_number ?d4_number ?d1_read ?d2_read ?d3_read ?d4_read ?d1__law_cell_at ?d2__law_cell_at ?d3__law_cell_at ?d4__law_cell_at ?d1__law_mixed ?d2__law_mixed ?d3__law_mixed ?d4__law_mixed ?d1__law_draw ?d2__law_draw ?d3__law_draw ?d4__law_draw ?d1__law_pick ?d2__law_pick ?d3__law_pick ?d4__law_pick ?d1__law_die ?d2__law_die ?d3__law_die ?d4__law_die ?d1__law_dice ?d2__law_dice ?d3__law_dice ?d4__law_dice ?d1__law_ask ?d2__law_ask ?d3__law_ask ?d4__law_ask ?d1__law_shown ?d2__law_shown ?d3__law_shown ?d4__law_shown ?d1_law ?d2_law ?d3_law ?d4_law ?d1__law_which ?d2__law_which ?d3__law_which ?d4__law_which ?u1 ?u2 ?u3 ?u4 ?u5 ?e1_NoDice ?e2_NoDice ?e3_NoDice ?e4_NoDice ?e5_NoDice ?e6_NoDice ?e7_NoDice ?i_NoDice_NoDie ?i_NoDice_NoDice ?i_NoDice_NoTotals ?i_NoDice_NoNumber ?i_NoDice_TooMany ?i_NoDice_NoText ?e1_NoText ?e2_NoText ?e3_NoText ?e4_NoText ?e5_NoText ?e6_NoText ?e7_NoText ?i_NoText_NoDie ?i_NoText_NoDice ?i_NoText_NoTotals ?i_NoText_NoNumber ?i_NoText_TooMany ?i_NoText_NoText
    (case z_ValueError => k_is)
    (case z_all => k_is)
    (case z_bool => k_is)
    (case z_enumerate => k_is)
    (case z_int => k_is)
    (case z_isinstance => k_is)
    (case z_len => k_is)
    (case z_list => k_is)
    (case z_min => k_is)
    (case z_range => k_is)
    (case z_sorted => k_is)
    (case z_str => k_is)
    (case z_tuple => k_is)
    (case k_DICE => k_is)
    (case k_FACE => k_is)
    (case k_FACES => k_is)
    (case k_FIGURES => k_is)
    (case a_DiceError => k_is)
    (case a_NoDice => k_is)
    (case a_NoDie => k_is)
    (case a_NoNumber => k_is)
    (case a_NoText => k_is)
    (case a_NoTotals => k_is)
    (case a_TooMany => k_is)
    (case x1_NoDice => k_exc)
    (case x2_NoDice => k_is)
    (case x3_NoDice => k_is)
    (case x4_NoDice => k_is)
    (case x1_NoText => k_exc)
    (case x2_NoText => k_is)
    (case x3_NoText => k_is)
    (case x4_NoText => k_is)
    (case d1_is_whole => k_is)
    (case d2_is_whole => k_is)
    (case d3_is_whole => k_is)
    (case d4_is_whole => k_is)
    (case d1_is_die => k_is)
    (case d2_is_die => k_is)
    (case d3_is_die => k_is)
    (case d4_is_die => k_is)
    (case d1_are_dice => k_is)
    (case d2_are_dice => k_is)
    (case d3_are_dice => k_is)
    (case d4_are_dice => k_is)
    (case d1_need_dice => k_is)
    (case d2_need_dice => k_is)
    (case d3_need_dice => k_is)
    (case d4_need_dice => k_is)
    (case d1_text_of => k_is)
    (case d2_text_of => k_is)
    (case d3_text_of => k_is)
    (case d4_text_of => k_is)
    (case d1_shown => k_is)
    (case d2_shown => k_is)
    (case d3_shown => k_is)
    (case d4_shown => k_is)
    (case d1_number => k_is)
    (case d2_number => k_is)
    (case d3_number => k_is)
    (case d4_number => k_is)
    (case d1_read => k_is)
    (case d2_read => k_is)
    (case d3_read => k_is)
    (case d4_read => k_is)
    (case d1__law_cell_at => k_is)
    (case d2__law_cell_at => k_is)
    (case d3__law_cell_at => k_is)
    (case d4__law_cell_at => k_is)
    (case d1__law_mixed => k_is)
    (case d2__law_mixed => k_is)
    (case d3__law_mixed => k_is)
    (case d4__law_mixed => k_is)
    (case d1__law_draw => k_is)
    (case d2__law_draw => k_is)
    (case d3__law_draw => k_is)
    (case d4__law_draw => k_is)
    (case d1__law_pick => k_is)
    (case d2__law_pick => k_is)
    (case d3__law_pick => k_is)
    (case d4__law_pick => k_is)
    (case d1__law_die => k_is)
    (case d2__law_die => k_is)
    (case d3__law_die => k_is)
    (case d4__law_die => k_is)
    (case d1__law_dice => k_is)
    (case d2__law_dice => k_is)
    (case d3__law_dice => k_is)
    (case d4__law_dice => k_is)
    (case d1__law_ask => k_is)
    (case d2__law_ask => k_is)
    (case d3__law_ask => k_is)
    (case d4__law_ask => k_is)
    (case d1__law_shown => k_is)
    (case d2__law_shown => k_is)
    (case d3__law_shown => k_is)
    (case d4__law_shown => k_is)
    (case d1_law => k_is)
    (case d2_law => k_is)
    (case d3_law => k_is)
    (case d4_law => k_is)
    (case d1__law_which => k_is)
    (case d2__law_which => k_is)
    (case d3__law_which => k_is)
    (case d4__law_which => k_is)
    (case u1 => k_is)
    (case u2 => k_is)
    (case u3 => k_is)
    (case u4 => k_is)
    (case u5 => k_is)
    (case e1_NoDice => k_is)
    (case e2_NoDice => k_is)
    (case e3_NoDice => k_is)
    (case e4_NoDice => k_is)
    (case e5_NoDice => k_is)
    (case e6_NoDice => kit_is)
    (case e7_NoDice => k_is)
    (case i_NoDice_NoDie => kit_is)
    (case i_NoDice_NoDice => kit_is)
    (case i_NoDice_NoTotals => kit_is)
    (case i_NoDice_NoNumber => kit_is)
    (case i_NoDice_TooMany => kit_is)
    (case i_NoDice_NoText => kit_is)
    (case e1_NoText => k_is)
    (case e2_NoText => k_is)
    (case e3_NoText => k_is)
    (case e4_NoText => k_is)
    (case e5_NoText => k_is)
    (case e6_NoText => kit_is)
    (case e7_NoText => k_is)
    (case i_NoText_NoDie => kit_is)
    (case i_NoText_NoDice => kit_is)
    (case i_NoText_NoTotals => kit_is)
    (case i_NoText_NoNumber => kit_is)
    (case i_NoText_TooMany => kit_is)
    (case i_NoText_NoText => kit_is)
#print axioms PySem.Challenge.cw_dicesums_k09_whole_texts_holds
