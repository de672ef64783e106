import PyProof.Rows.All
import Wide.All
import OpenK.AllK
import Wide.FinOn
import HandS.ForMost
import HandS.ForExc
import HandS.Deep
import HandS.TupAny
import HandS.TupMul
import HandS.IsInst
import HandS.TupLen
import HandS.WordsDict
import HandS.SortInts
import HandS.SetFor
import HandS.Style
import HandS.Conv
import KE.KRevSl
import HandS.Wide
import HandS.WordsExc
import KE.KExcIs
import PySem.Challenge.RW_swapstops_k04_whole_numbers_of_standings
set_option Elab.async false
set_option linter.all false
set_option maxRecDepth 100000
set_option maxHeartbeats 4000000
/-! BV: values as data. Part a: data at a place of the abstract heap, slots, the relation R. -/
namespace BV
open PySem L2

abbrev Fg := PySem.W.Frag

/-- the smaller heap's objects stand in the greater one -/
def Sub (F H : Hp) : Prop := ∀ a o, F a = some o → H a = some o
theorem Sub.refl (F : Hp) : Sub F F := fun _ _ h => h
theorem Sub.trans {F G H : Hp} (x : Sub F G) (y : Sub G H) : Sub F H := fun a o h => y a o (x a o h)
theorem Sub.rd {F H : Hp} {a : Addr} {u : HO} (s : Sub F H) (h : Rd F a u) : Rd H a u := by
  rcases h with h | ⟨o, h⟩
  · exact .inl (s _ _ h)
  · exact .inr ⟨o, s _ _ h⟩
theorem Sub.sqL {K : Fg} {F H : Hp} {a : Addr} {vs : List V} (s : Sub F H) (h : SqL K F a vs) : SqL K H a vs := by
  rcases h with h | h
  · exact .inl (s.rd h)
  · exact .inr h
theorem Sub.sqT {K : Fg} {F H : Hp} {a : Addr} {vs : List V} (s : Sub F H) (h : SqT K F a vs) : SqT K H a vs := by
  rcases h with h | h
  · exact .inl (s.rd h)
  · exact .inr h
theorem Sub.upd {F H : Hp} {p : Addr} {o : HO} (s : Sub F H) (h : F p = none) : Sub F (L2.upd H p o) := fun a u e => by
  rw [upd_ne (ne_of_none e h)]
  exact s a u e
theorem Sub.upd2 {F H : Hp} {p : Addr} {o : HO} (s : Sub F H) : Sub (L2.upd F p o) (L2.upd H p o) := fun a u e => by
  by_cases ha : a = p
  · subst ha
    rw [upd_same] at e ⊢
    exact e
  · rw [upd_ne ha] at e ⊢
    exact s a u e
theorem Sub.new {F : Hp} {p : Addr} {o : HO} (h : F p = none) : Sub F (L2.upd F p o) := Sub.upd (Sub.refl F) h

def kD : Key → PyData
  | .inl i => .int i
  | .inr z => .str z

mutual
/-- the value v of the frozen heap F is the data d -/
inductive Rep (K : Fg) (F : Hp) : V → PyData → Prop
  | non : Rep K F .non .none
  | bl (b : Bool) : Rep K F (.bl b) (.bool b)
  | int (i : Int) : Rep K F (.int i) (.int i)
  | str (z : Str) : Rep K F (.str z) (.str z)
  | lst {a : Addr} {vs : List V} {ds : List PyData} : SqL K F a vs → RepA K F vs ds → Rep K F (.ref a) (.list ds)
  | tup {a : Addr} {vs : List V} {ds : List PyData} : SqT K F a vs → RepA K F vs ds → Rep K F (.ref a) (.tuple ds)
  | dK {a : Addr} {kvs : List (Key × V)} {ds : List PyData} {kds : List (PyData × PyData)} : F a = some (.dK kvs) → RepA K F (kvs.map (·.2)) ds → kds = (kvs.map fun p => kD p.1).zip ds → Rep K F (.ref a) (.dict kds)
  | dT {a : Addr} {kvs : List (List Key × V)} {ds : List PyData} {kds : List (PyData × PyData)} : F a = some (.dT kvs) → RepA K F (kvs.map (·.2)) ds → kds = (kvs.map fun p => PyData.tuple (p.1.map kD)).zip ds → Rep K F (.ref a) (.dict kds)
inductive RepA (K : Fg) (F : Hp) : List V → List PyData → Prop
  | nil : RepA K F [] []
  | cons {v : V} {vs : List V} {d : PyData} {ds : List PyData} : Rep K F v d → RepA K F vs ds → RepA K F (v :: vs) (d :: ds)
end

section
variable {K : Fg} {F G H : Hp}
mutual
theorem Rep.mono (s : Sub F G) : ∀ {v : V} {d : PyData}, Rep K F v d → Rep K G v d
  | _, _, .non => .non
  | _, _, .bl b => .bl b
  | _, _, .int i => .int i
  | _, _, .str z => .str z
  | _, _, .lst q r => .lst (s.sqL q) (RepA.mono s r)
  | _, _, .tup q r => .tup (s.sqT q) (RepA.mono s r)
  | _, _, .dK q r e => .dK (s _ _ q) (RepA.mono s r) e
  | _, _, .dT q r e => .dT (s _ _ q) (RepA.mono s r) e
theorem RepA.mono (s : Sub F G) : ∀ {vs : List V} {ds : List PyData}, RepA K F vs ds → RepA K G vs ds
  | _, _, .nil => .nil
  | _, _, .cons h1 h2 => .cons (Rep.mono s h1) (RepA.mono s h2)
end
theorem RepA.length : ∀ {vs : List V} {ds : List PyData}, RepA K F vs ds → vs.length = ds.length
  | _, _, .nil => rfl
  | _, _, .cons _ h => congrArg (· + 1) h.length
theorem RepA.get : ∀ {vs : List V} {ds : List PyData} {i : Nat} {d : PyData}, RepA K F vs ds → ds[i]? = some d → ∃ v, vs[i]? = some v ∧ Rep K F v d
  | _, _, _, _, .nil, e => by simp at e
  | _, _, 0, _, .cons h1 h2, e => by
    simp at e
    subst e
    exact ⟨_, rfl, h1⟩
  | _, _, i + 1, d, .cons h1 h2, e => by
    obtain ⟨v, e1, r⟩ := RepA.get (i := i) (d := d) h2 (by simpa using e)
    exact ⟨v, by simpa using e1, r⟩
theorem RepA.getV {vs : List V} {ds : List PyData} {i : Nat} {v : V} (h : RepA K F vs ds) (e : vs[i]? = some v) : ∃ d, ds[i]? = some d ∧ Rep K F v d := by
  have hl := h.length
  have hi : i < ds.length := by
    have := (List.getElem?_eq_some_iff.mp e).1
    omega
  obtain ⟨v', e', r⟩ := h.get (List.getElem?_eq_getElem hi)
  rw [e] at e'
  cases e'
  exact ⟨_, List.getElem?_eq_getElem hi, r⟩
theorem RepA.append : ∀ {vs ws : List V} {ds es : List PyData}, RepA K F vs ds → RepA K F ws es → RepA K F (vs ++ ws) (ds ++ es)
  | _, _, _, _, .nil, h => h
  | _, _, _, _, .cons a b, h => .cons a (b.append h)
theorem RepA.snoc {vs : List V} {ds : List PyData} {v : V} {d : PyData} (h : RepA K F vs ds) (q : Rep K F v d) : RepA K F (vs ++ [v]) (ds ++ [d]) := h.append (.cons q .nil)
theorem RepA.take : ∀ {vs : List V} {ds : List PyData} (n : Nat), RepA K F vs ds → RepA K F (vs.take n) (ds.take n)
  | _, _, 0, _ => .nil
  | _, _, _ + 1, .nil => .nil
  | _, _, n + 1, .cons a b => .cons a (b.take n)
theorem RepA.drop : ∀ {vs : List V} {ds : List PyData} (n : Nat), RepA K F vs ds → RepA K F (vs.drop n) (ds.drop n)
  | _, _, 0, h => h
  | _, _, _ + 1, .nil => .nil
  | _, _, n + 1, .cons _ b => b.drop n
theorem RepA.set : ∀ {vs : List V} {ds : List PyData} {v : V} {d : PyData} (i : Nat), RepA K F vs ds → Rep K F v d → RepA K F (vs.set i v) (ds.set i d)
  | _, _, _, _, _, .nil, _ => .nil
  | _, _, _, _, 0, .cons _ b, q => .cons q b
  | _, _, _, _, i + 1, .cons a b, q => .cons a (b.set i q)
theorem RepA.erase : ∀ {vs : List V} {ds : List PyData} (i : Nat), RepA K F vs ds → RepA K F (vs.eraseIdx i) (ds.eraseIdx i)
  | _, _, _, .nil => .nil
  | _, _, 0, .cons _ b => b
  | _, _, i + 1, .cons a b => .cons a (b.erase i)
theorem RepA.reverse : ∀ {vs : List V} {ds : List PyData}, RepA K F vs ds → RepA K F vs.reverse ds.reverse
  | _, _, .nil => .nil
  | _, _, .cons a b => by
    rw [List.reverse_cons, List.reverse_cons]
    exact b.reverse.snoc a
theorem RepA.ints : ∀ ns : List Int, RepA K F (ns.map V.int) (ns.map PyData.int)
  | [] => .nil
  | _ :: r => .cons (.int _) (RepA.ints r)
theorem RepA.strs : ∀ ns : List Str, RepA K F (ns.map V.str) (ns.map PyData.str)
  | [] => .nil
  | _ :: r => .cons (.str _) (RepA.strs r)
theorem RepA.ints_of : ∀ {ns : List Int} {vs : List V}, RepA K F vs (ns.map PyData.int) → vs = ns.map V.int
  | [], _, h => by
    cases h
    rfl
  | n :: r, _, h => by
    cases h with
    | cons a b =>
      cases a
      rw [RepA.ints_of b]
      rfl
theorem RepA.strs_of : ∀ {ns : List Str} {vs : List V}, RepA K F vs (ns.map PyData.str) → vs = ns.map V.str
  | [], _, h => by
    cases h
    rfl
  | n :: r, _, h => by
    cases h with
    | cons a b =>
      cases a
      rw [RepA.strs_of b]
      rfl
theorem RepA.split : ∀ {vs : List V} {ds es : List PyData}, RepA K F vs (ds ++ es) → ∃ v1 v2, vs = v1 ++ v2 ∧ RepA K F v1 ds ∧ RepA K F v2 es
  | _, [], _, h => ⟨[], _, rfl, .nil, h⟩
  | _, d :: ds, _, .cons a b => by
    obtain ⟨v1, v2, e, h1, h2⟩ := RepA.split b
    exact ⟨_ :: v1, v2, by rw [e]; rfl, .cons a h1, h2⟩
theorem RepA.replicate {v : V} {d : PyData} (h : Rep K F v d) : ∀ n : Nat, RepA K F (List.replicate n v) (List.replicate n d)
  | 0 => .nil
  | n + 1 => .cons h (RepA.replicate h n)
theorem RepA.flat {vs : List V} {ds : List PyData} (h : RepA K F vs ds) : ∀ n : Nat, RepA K F (List.replicate n vs).flatten (List.replicate n ds).flatten
  | 0 => .nil
  | n + 1 => by
    rw [List.replicate_succ, List.replicate_succ, List.flatten_cons, List.flatten_cons]
    exact h.append (h.flat n)
end

/-! ### objects that one name owns -/
/-- one that is told by an invariant alone -/
structure Ab where
  at' : Hp → (Addr → Prop) → Addr → Prop
  mono : ∀ {H H' : Hp} {own own' : Addr → Prop} {a : Addr}, (∀ b, own b → H' b = H b) → (∀ b, own b → own' b) → at' H own a → at' H' own' a
  root : ∀ {H : Hp} {own : Addr → Prop} {a : Addr}, at' H own a → own a
inductive Ow where
  | lst (xs : List PyData)
  | lsl (xss : List (List PyData))
  | dK (kvs : List (Key × PyData))
  | dT (kvs : List (List Key × PyData))
  | ab (A : Ab)

def OwAt (K : Fg) (F H : Hp) (own : Addr → Prop) (a : Addr) : Ow → Prop
  | .lst xs => own a ∧ ∃ vs, H a = some (.lst vs) ∧ RepA K F vs xs
  | .lsl xss => own a ∧ ∃ bs : List Addr, H a = some (.lst (bs.map V.ref)) ∧ (a :: bs).Nodup ∧ (∀ b ∈ bs, own b) ∧ Paired (fun b xs => ∃ vs, H b = some (.lst vs) ∧ RepA K F vs xs) bs xss
  | .dK kvs => own a ∧ ∃ ws : List (Key × V), H a = some (.dK ws) ∧ ws.map (·.1) = kvs.map (·.1) ∧ RepA K F (ws.map (·.2)) (kvs.map (·.2))
  | .dT kvs => own a ∧ ∃ ws : List (List Key × V), H a = some (.dT ws) ∧ ws.map (·.1) = kvs.map (·.1) ∧ RepA K F (ws.map (·.2)) (kvs.map (·.2))
  | .ab A => A.at' H own a

theorem paired_imp {α β : Type} {P Q : α → β → Prop} : ∀ {l : List α} {m : List β}, Paired P l m → (∀ a ∈ l, ∀ b, P a b → Q a b) → Paired Q l m
  | _, _, .nil, _ => .nil
  | _, _, .cons h t, f => .cons (f _ (List.mem_cons_self ..) _ h) (paired_imp t fun a ha => f a (List.mem_cons_of_mem _ ha))

section
variable {K : Fg} {F G H H' : Hp} {own own' : Addr → Prop} {a : Addr}
theorem OwAt.mono (s : Sub F G) (hh : ∀ b, own b → H' b = H b) (ho : ∀ b, own b → own' b) : ∀ {o : Ow}, OwAt K F H own a o → OwAt K G H' own' a o
  | .lst xs, ⟨x, vs, e, r⟩ => ⟨ho a x, vs, (hh a x).trans e, r.mono s⟩
  | .lsl xss, ⟨x, bs, e, nd, z, p⟩ => ⟨ho a x, bs, (hh a x).trans e, nd, fun b hb => ho b (z b hb), paired_imp p fun b hb xs ⟨vs, e1, r⟩ => ⟨vs, (hh b (z b hb)).trans e1, r.mono s⟩⟩
  | .dK kvs, ⟨x, ws, e, k, r⟩ => ⟨ho a x, ws, (hh a x).trans e, k, r.mono s⟩
  | .dT kvs, ⟨x, ws, e, k, r⟩ => ⟨ho a x, ws, (hh a x).trans e, k, r.mono s⟩
  | .ab A, h => A.mono hh ho h
theorem OwAt.root : ∀ {o : Ow}, OwAt K F H own a o → own a
  | .lst _, h => h.1
  | .lsl _, h => h.1
  | .dK _, h => h.1
  | .dT _, h => h.1
  | .ab A, h => A.root h
end
/-- an owned object as data -/
def Ow.dat : Ow → Option PyData
  | .lst xs => some (.list xs)
  | .lsl xss => some (.list (xss.map PyData.list))
  | .dK kvs => some (.dict (kvs.map fun p => (kD p.1, p.2)))
  | .dT kvs => some (.dict (kvs.map fun p => (.tuple (p.1.map kD), p.2)))
  | .ab _ => none
theorem zip_map2 {α β γ : Type} (f : α → γ) : ∀ (l : List (α × β)), (l.map fun p => (f p.1, p.2)) = (l.map fun p => f p.1).zip (l.map (·.2))
  | [] => rfl
  | p :: r => by simp [zip_map2 f r]
theorem zip_keys {α β γ δ : Type} (f : α → γ) (ws : List (α × β)) (kvs : List (α × δ)) (h : ws.map (·.1) = kvs.map (·.1)) : (kvs.map fun p => (f p.1, p.2)) = (ws.map fun p => f p.1).zip (kvs.map (·.2)) := by
  rw [zip_map2]
  congr 1
  have e : ∀ {δ : Type} (l : List (α × δ)), (l.map fun p => f p.1) = (l.map (·.1)).map f := fun l => by simp
  rw [e, e, h]
theorem OwAt.rep {K : Fg} {F G H : Hp} {own : Addr → Prop} {a : Addr} {d : PyData} (s : Sub F G) (hh : ∀ b, own b → G b = H b) : ∀ {o : Ow}, OwAt K F H own a o → o.dat = some d → Rep K G (.ref a) d
  | .lst xs, ⟨x, vs, e, r⟩, q => by
    cases q
    exact .lst (.of ((hh a x).trans e)) (r.mono s)
  | .lsl xss, ⟨x, bs, e, nd, z, p⟩, q => by
    cases q
    refine .lst (.of ((hh a x).trans e)) ?_
    clear nd e
    induction p with
    | nil => exact .nil
    | cons h t ih =>
      obtain ⟨vs, e1, r⟩ := h
      exact .cons (.lst (.of ((hh _ (z _ (List.mem_cons_self ..))).trans e1)) (r.mono s)) (ih fun b hb => z b (List.mem_cons_of_mem _ hb))
  | .dK kvs, ⟨x, ws, e, k, r⟩, q => by
    cases q
    exact .dK ((hh a x).trans e) (r.mono s) (zip_keys kD ws kvs k)
  | .dT kvs, ⟨x, ws, e, k, r⟩, q => by
    cases q
    exact .dT ((hh a x).trans e) (r.mono s) (zip_keys (fun k => PyData.tuple (k.map kD)) ws kvs k)
  | .ab _, _, q => by cases q

/-! ### slots, temporaries -/
inductive Sl where
  | un
  | fz (d : PyData)
  | ow (o : Ow)
  | al (i : Nat)
  | cst (v : V)

abbrev Col := Addr → Option (Nat ⊕ Nat)
def TmpOk (K : Fg) (F H : Hp) (σ : L2.St) (c : Col) (j : Nat) (v : V) : Sl → Prop
  | .un => True
  | .fz d => Rep K F v d
  | .ow o => ∃ a, v = .ref a ∧ OwAt K F H (fun b => c b = some (.inl j)) a o
  | .al i => σ[i]? = some (some v)
  | .cst w => v = w
def SlotOk (K : Fg) (F H : Hp) (σ : L2.St) (c : Col) (i : Nat) : Sl → Prop
  | .un => True
  | .fz d => ∃ v, σ[i]? = some (some v) ∧ Rep K F v d
  | .ow o => ∃ a, σ[i]? = some (some (.ref a)) ∧ OwAt K F H (fun b => c b = some (.inr i)) a o
  | .al _ => False
  | .cst _ => False

structure Rc (K : Fg) (F0 B F H : Hp) (T : List Sl) (τ : List V) (env : List Sl) (σ : L2.St) (c : Col) : Prop where
  f0 : Sub F0 F
  fh : Sub F H
  bh : Sub B H
  nw : ∀ a, F a ≠ none → F0 a ≠ none ∨ B a = none
  len : T.length = τ.length
  le : env.length = σ.length
  col : ∀ b, c b ≠ none → F b = none ∧ B b = none ∧ H b ≠ none
  tmp : ∀ j s v, T[j]? = some s → τ[j]? = some v → TmpOk K F H σ c j v s
  slt : ∀ i s, env[i]? = some s → SlotOk K F H σ c i s
def R (K : Fg) (F0 B F H : Hp) (T : List Sl) (τ : List V) (env : List Sl) (σ : L2.St) : Prop := ∃ c, Rc K F0 B F H T τ env σ c
end BV

set_option maxHeartbeats 4000000
/-! BV, part b: how R is carried on. -/
namespace BV
open PySem L2

section
variable {K : Fg} {F0 B F G H H' : Hp} {T S : List Sl} {τ ν : List V} {env : List Sl} {σ : L2.St} {c : Col} {v w : V} {d : PyData} {s : Sl} {o : Ow} {i j : Nat} {p : Addr} {u : HO}

theorem get_snoc {α : Type} {l : List α} {a x : α} {i : Nat} (h : (l ++ [a])[i]? = some x) : (i < l.length ∧ l[i]? = some x) ∨ (i = l.length ∧ a = x) := by
  by_cases hi : i < l.length
  · rw [List.getElem?_append_left hi] at h
    exact .inl ⟨hi, h⟩
  · by_cases he : i = l.length
    · subst he
      rw [List.getElem?_append_right (Nat.le_refl _)] at h
      simp at h
      exact .inr ⟨rfl, h⟩
    · rw [List.getElem?_eq_none (by simp; omega)] at h
      cases h
theorem snoc_last {α : Type} {l : List α} {a : α} : (l ++ [a])[l.length]? = some a := by
  rw [List.getElem?_append_right (Nat.le_refl _)]
  simp

theorem TmpOk.mono (hs : Sub F G) (hh : ∀ b, c b = some (.inl j) → H' b = H b) {c' : Col} (hc : ∀ b, c b = some (.inl j) → c' b = some (.inl j)) : ∀ {s : Sl}, TmpOk K F H σ c j v s → TmpOk K G H' σ c' j v s
  | .un, h => h
  | .fz d, h => Rep.mono hs h
  | .ow o, ⟨a, e, h⟩ => ⟨a, e, h.mono hs hh hc⟩
  | .al i, h => h
  | .cst w, h => h
theorem SlotOk.mono (hs : Sub F G) (hh : ∀ b, c b = some (.inr i) → H' b = H b) {c' : Col} (hc : ∀ b, c b = some (.inr i) → c' b = some (.inr i)) : ∀ {s : Sl}, SlotOk K F H σ c i s → SlotOk K G H' σ c' i s
  | .un, h => h
  | .fz d, ⟨v, e, h⟩ => ⟨v, e, Rep.mono hs h⟩
  | .ow o, ⟨a, e, h⟩ => ⟨a, e, h.mono hs hh hc⟩
  | .al i, h => h
  | .cst w, h => h

/-! temporaries come and go -/
theorem Rc.push (r : Rc K F0 B F H T τ env σ c) (h : TmpOk K F H σ c T.length v s) : Rc K F0 B F H (T ++ [s]) (τ ++ [v]) env σ c :=
  { r with
    len := by simp [r.len]
    tmp := fun j s' v' h1 h2 => by
      rcases get_snoc h1 with ⟨hj, e⟩ | ⟨rfl, rfl⟩
      · have e2 : τ[j]? = some v' := by
          rw [List.getElem?_append_left (by rw [← r.len]; exact hj)] at h2
          exact h2
        exact r.tmp j s' v' e e2
      · rw [r.len, snoc_last] at h2
        cases h2
        exact h }
theorem R.push_fz (r : R K F0 B F H T τ env σ) (h : Rep K F v d) : R K F0 B F H (T ++ [.fz d]) (τ ++ [v]) env σ :=
  let ⟨c, q⟩ := r; ⟨c, q.push (s := .fz d) h⟩
theorem R.push_cst (r : R K F0 B F H T τ env σ) : R K F0 B F H (T ++ [.cst v]) (τ ++ [v]) env σ :=
  let ⟨c, q⟩ := r; ⟨c, q.push (s := .cst v) rfl⟩
theorem R.push_un (r : R K F0 B F H T τ env σ) : R K F0 B F H (T ++ [.un]) (τ ++ [v]) env σ :=
  let ⟨c, q⟩ := r; ⟨c, q.push (s := .un) trivial⟩
theorem R.push_al (r : R K F0 B F H T τ env σ) (h : σ[i]? = some (some v)) : R K F0 B F H (T ++ [.al i]) (τ ++ [v]) env σ :=
  let ⟨c, q⟩ := r; ⟨c, q.push (s := .al i) h⟩
theorem Rc.popn (r : Rc K F0 B F H (T ++ S) (τ ++ ν) env σ c) (hl : S.length = ν.length) : Rc K F0 B F H T τ env σ c :=
  { r with
    len := by
      have := r.len
      simp at this
      omega
    tmp := fun j s v h1 h2 => r.tmp j s v (by rw [List.getElem?_append_left (List.getElem?_eq_some_iff.mp h1).1]; exact h1) (by rw [List.getElem?_append_left (List.getElem?_eq_some_iff.mp h2).1]; exact h2) }
theorem R.popn (r : R K F0 B F H (T ++ S) (τ ++ ν) env σ) (hl : S.length = ν.length) : R K F0 B F H T τ env σ :=
  let ⟨c, q⟩ := r; ⟨c, q.popn hl⟩
theorem R.pop (r : R K F0 B F H (T ++ [s]) (τ ++ [v]) env σ) : R K F0 B F H T τ env σ := r.popn rfl
theorem R.len (r : R K F0 B F H T τ env σ) : T.length = τ.length := let ⟨_, q⟩ := r; q.len
theorem R.le (r : R K F0 B F H T τ env σ) : env.length = σ.length := let ⟨_, q⟩ := r; q.le
theorem R.fh (r : R K F0 B F H T τ env σ) : Sub F H := let ⟨_, q⟩ := r; q.fh
theorem Rc.top (r : Rc K F0 B F H (T ++ [s]) (τ ++ [v]) env σ c) : TmpOk K F H σ c T.length v s := by
  have hl : T.length = τ.length := by
    have := r.len
    simp at this
    exact this
  exact r.tmp _ _ _ snoc_last (by rw [hl]; exact snoc_last)
theorem R.top_fz (r : R K F0 B F H (T ++ [.fz d]) (τ ++ [v]) env σ) : Rep K F v d := let ⟨_, q⟩ := r; q.top
theorem R.top_cst (r : R K F0 B F H (T ++ [.cst w]) (τ ++ [v]) env σ) : v = w := let ⟨_, q⟩ := r; q.top
theorem R.top_al (r : R K F0 B F H (T ++ [.al i]) (τ ++ [v]) env σ) : σ[i]? = some (some v) := let ⟨_, q⟩ := r; q.top
/-- the one below the top -/
theorem R.two_fz (r : R K F0 B F H (T ++ [.fz d] ++ [s]) (τ ++ [v] ++ [w]) env σ) : Rep K F v d := r.pop.top_fz

/-! a fresh place -/
theorem Rc.fresh (r : Rc K F0 B F H T τ env σ c) (h : H p = none) : F p = none ∧ B p = none ∧ c p = none := by
  refine ⟨?_, ?_, ?_⟩
  · cases e : F p with
    | none => rfl
    | some o => rw [r.fh _ _ e] at h; cases h
  · cases e : B p with
    | none => rfl
    | some o => rw [r.bh _ _ e] at h; cases h
  · cases e : c p with
    | none => rfl
    | some q => exact absurd h (r.col p (by rw [e]; exact fun z => nomatch z)).2.2
/-- a new object, known for good -/
theorem R.laidF (r : R K F0 B F H T τ env σ) (h : H p = none) (u : HO) : R K F0 B (upd F p u) (upd H p u) T τ env σ := by
  obtain ⟨c, q⟩ := r
  obtain ⟨f, b, cp⟩ := q.fresh h
  have ne : ∀ x, c x ≠ none → x ≠ p := fun x hx e => hx (e ▸ cp)
  refine ⟨c, ⟨fun a o e => Sub.new f a o (q.f0 a o e), Sub.upd2 q.fh, fun a o e => Sub.new h a o (q.bh a o e), fun a ha => ?_, q.len, q.le, fun x hx => ?_, fun j s v h1 h2 => ?_, fun i s h1 => ?_⟩⟩
  · by_cases e : a = p
    · exact .inr (e ▸ b)
    · rw [upd_ne e] at ha
      exact q.nw a ha
  · rw [upd_ne (ne x hx), upd_ne (ne x hx)]
    exact q.col x hx
  · exact (q.tmp j s v h1 h2).mono (Sub.new f) (fun x hx => upd_ne (ne x (by rw [hx]; exact fun z => nomatch z))) fun _ z => z
  · exact (q.slt i s h1).mono (Sub.new f) (fun x hx => upd_ne (ne x (by rw [hx]; exact fun z => nomatch z))) fun _ z => z
/-- .. as a temporary -/
theorem R.newF (r : R K F0 B F H T τ env σ) (h : H p = none) (u : HO) (hd : Rep K (upd F p u) (.ref p) d) : R K F0 B (upd F p u) (upd H p u) (T ++ [.fz d]) (τ ++ [.ref p]) env σ :=
  (r.laidF h u).push_fz hd
/-- a new object, untold -/
theorem R.laid0 (r : R K F0 B F H T τ env σ) (h : H p = none) (u : HO) : R K F0 B F (upd H p u) T τ env σ := by
  obtain ⟨c, q⟩ := r
  obtain ⟨f, b, cp⟩ := q.fresh h
  have ne : ∀ x, c x ≠ none → x ≠ p := fun x hx e => hx (e ▸ cp)
  refine ⟨c, ⟨q.f0, fun a o e => Sub.new h a o (q.fh a o e), fun a o e => Sub.new h a o (q.bh a o e), q.nw, q.len, q.le, fun x hx => ?_, fun j s v h1 h2 => ?_, fun i s h1 => ?_⟩⟩
  · rw [upd_ne (ne x hx)]
    exact q.col x hx
  · exact (q.tmp j s v h1 h2).mono (Sub.refl _) (fun x hx => upd_ne (ne x (by rw [hx]; exact fun z => nomatch z))) fun _ z => z
  · exact (q.slt i s h1).mono (Sub.refl _) (fun x hx => upd_ne (ne x (by rw [hx]; exact fun z => nomatch z))) fun _ z => z
/-- a new object of our own -/
theorem R.newO (r : R K F0 B F H T τ env σ) (h : H p = none) (u : HO) (ho : OwAt K F (upd H p u) (fun b => b = p) p o) : R K F0 B F (upd H p u) (T ++ [.ow o]) (τ ++ [.ref p]) env σ := by
  obtain ⟨c, q⟩ := r
  obtain ⟨f, b, cp⟩ := q.fresh h
  have ne : ∀ x, c x ≠ none → x ≠ p := fun x hx e => hx (e ▸ cp)
  let c' : Col := fun x => if x = p then some (.inl T.length) else c x
  have cs : c' p = some (.inl T.length) := if_pos rfl
  have cn : ∀ x, x ≠ p → c' x = c x := fun x hx => if_neg hx
  refine ⟨c', Rc.push (s := .ow o) ⟨q.f0, fun a o e => Sub.new h a o (q.fh a o e), fun a o e => Sub.new h a o (q.bh a o e), q.nw, q.len, q.le, fun x hx => ?_, fun j s v h1 h2 => ?_, fun i s h1 => ?_⟩ ?_⟩
  · by_cases e : x = p
    · subst e
      exact ⟨f, b, by rw [upd_same]; exact fun z => nomatch z⟩
    · rw [cn x e] at hx
      rw [upd_ne e]
      exact q.col x hx
  · refine (q.tmp j s v h1 h2).mono (Sub.refl _) (fun x hx => upd_ne (ne x (by rw [hx]; exact fun z => nomatch z))) fun x hx => ?_
    rw [cn x (ne x (by rw [hx]; exact fun z => nomatch z))]
    exact hx
  · refine (q.slt i s h1).mono (Sub.refl _) (fun x hx => upd_ne (ne x (by rw [hx]; exact fun z => nomatch z))) fun x hx => ?_
    rw [cn x (ne x (by rw [hx]; exact fun z => nomatch z))]
    exact hx
  · exact ⟨p, rfl, ho.mono (Sub.refl _) (fun _ _ => rfl) fun x hx => by rw [show x = p from hx]; exact cs⟩
theorem R.newL {vs : List V} {ds : List PyData} (r : R K F0 B F H T τ env σ) (h : H p = none) (hd : RepA K F vs ds) : R K F0 B F (upd H p (.lst vs)) (T ++ [.ow (.lst ds)]) (τ ++ [.ref p]) env σ :=
  r.newO h (.lst vs) ⟨rfl, vs, upd_same, hd⟩

/-! names -/
theorem R.slot_fz (r : R K F0 B F H T τ env σ) (h : env[i]? = some (.fz d)) : ∃ v, σ[i]? = some (some v) ∧ Rep K F v d := let ⟨_, q⟩ := r; q.slt i _ h
theorem R.slot_ow (r : R K F0 B F H T τ env σ) (h : env[i]? = some (.ow o)) : ∃ a, σ[i]? = some (some (.ref a)) := let ⟨_, q⟩ := r; let ⟨a, e, _⟩ := q.slt i _ h; ⟨a, e⟩

/-- no temporary speaks of a name -/
def NoAl (T : List Sl) : Prop := ∀ (j i : Nat), T[j]? ≠ some (Sl.al i)
theorem NoAl.nil : NoAl [] := fun _ _ h => by simp at h
theorem NoAl.snoc (h : NoAl T) (hs : ∀ i, s ≠ Sl.al i) : NoAl (T ++ [s]) := fun j i e => by
  rcases get_snoc e with ⟨_, e⟩ | ⟨_, e⟩
  · exact h j i e
  · exact hs i e
theorem NoAl.left (h : NoAl (T ++ S)) : NoAl T := fun j i e => h j i (by rw [List.getElem?_append_left (List.getElem?_eq_some_iff.mp e).1]; exact e)

theorem tmp_set (hn : ∀ j : Nat, T[j]? ≠ some (Sl.al i)) (hj : T[j]? = some s) {x : Option V} (h : TmpOk K F H σ c j v s) : TmpOk K F H (σ.set i x) c j v s := by
  cases s with
  | al k =>
    have hk : k ≠ i := fun e => hn j (e ▸ hj)
    have h' : σ[k]? = some (some v) := h
    show (σ.set i x)[k]? = some (some v)
    rw [List.getElem?_set_ne (Ne.symm hk)]
    exact h'
  | un => exact h
  | fz d => exact h
  | ow o => exact h
  | cst w => exact h
theorem slt_set {k : Nat} {x : Option V} (hk : k ≠ i) : ∀ {s : Sl}, SlotOk K F H σ c k s → SlotOk K F H (σ.set i x) c k s
  | .un, h => h
  | .fz d, ⟨v, e, h⟩ => ⟨v, by rw [List.getElem?_set_ne (Ne.symm hk)]; exact e, h⟩
  | .ow o, ⟨a, e, h⟩ => ⟨a, by rw [List.getElem?_set_ne (Ne.symm hk)]; exact e, h⟩
  | .al _, h => h
  | .cst _, h => h

/-- the top temporary goes to a name; the name's own object, if any, is forgotten -/
theorem R.assign (r : R K F0 B F H (T ++ [s]) (τ ++ [v]) env σ) (hn : ∀ j : Nat, T[j]? ≠ some (Sl.al i)) (hs : (∃ d, s = .fz d) ∨ ∃ o, s = .ow o) : R K F0 B F H T τ (env.set i s) (σ.set i (some v)) := by
  by_cases hi : i < env.length
  case neg =>
    rw [List.set_eq_of_length_le (by omega), List.set_eq_of_length_le (by have := r.le; omega)]
    exact r.pop
  obtain ⟨c, q⟩ := r
  have hl : T.length = τ.length := by
    have := q.len
    simp at this
    exact this
  have top := q.top
  let c' : Col := fun x => if c x = some (.inl T.length) then some (.inr i) else if c x = some (.inr i) then none else c x
  have c1 : ∀ x, c x = some (.inl T.length) → c' x = some (.inr i) := fun x hx => if_pos hx
  have c2 : ∀ x, c x ≠ some (.inl T.length) → c x ≠ some (.inr i) → c' x = c x := fun x h1 h2 => by
    show (if c x = some (.inl T.length) then _ else _) = _
    rw [if_neg h1, if_neg h2]
  have c3 : ∀ x, c' x ≠ none → c x ≠ none := fun x hx e => by
    apply hx
    rw [c2 x (by rw [e]; exact fun z => nomatch z) (by rw [e]; exact fun z => nomatch z)]
    exact e
  refine ⟨c', ⟨q.f0, q.fh, q.bh, q.nw, hl, by simp [q.le], fun x hx => q.col x (c3 x hx), fun j s' v' h1 h2 => ?_, fun k s' h1 => ?_⟩⟩
  · have hj : j < T.length := (List.getElem?_eq_some_iff.mp h1).1
    have w := q.tmp j s' v' (by rw [List.getElem?_append_left hj]; exact h1) (by rw [List.getElem?_append_left (by omega)]; exact h2)
    refine (tmp_set (i := i) hn h1 w).mono (Sub.refl _) (fun _ _ => rfl) fun x hx => ?_
    rw [c2 x (by rw [hx]; intro z; injection z with z; injection z with z; omega) (by rw [hx]; intro z; injection z with z; cases z)]
    exact hx
  · by_cases hk : k = i
    · subst hk
      rw [List.getElem?_set_self hi] at h1
      cases h1
      have e : (σ.set k (some v))[k]? = some (some v) := List.getElem?_set_self (by rw [← q.le]; exact hi)
      rcases hs with ⟨d, rfl⟩ | ⟨o, rfl⟩
      · exact ⟨v, e, top⟩
      · obtain ⟨a, ea, h⟩ := top
        subst ea
        exact ⟨a, e, h.mono (Sub.refl _) (fun _ _ => rfl) c1⟩
    · rw [List.getElem?_set_ne (Ne.symm hk)] at h1
      refine (slt_set hk (q.slt k s' h1)).mono (Sub.refl _) (fun _ _ => rfl) fun x hx => ?_
      rw [c2 x (by rw [hx]; intro z; injection z with z; cases z) (by rw [hx]; intro z; injection z with z; injection z with z; exact hk z)]
      exact hx
/-- a name is forgotten -/
theorem R.forget (r : R K F0 B F H T τ env σ) (hi : i < env.length) : R K F0 B F H T τ (env.set i .un) σ := by
  obtain ⟨c, q⟩ := r
  refine ⟨c, { q with le := by simp [q.le], slt := fun k s h1 => ?_ }⟩
  by_cases hk : k = i
  · subst hk
    rw [List.getElem?_set_self hi] at h1
    cases h1
    trivial
  · rw [List.getElem?_set_ne (Ne.symm hk)] at h1
    exact q.slt k s h1
/-- .. and its slot too -/
theorem R.wipe1 {x : Option V} (r : R K F0 B F H T τ env σ) (hn : ∀ j : Nat, T[j]? ≠ some (Sl.al i)) : R K F0 B F H T τ (env.set i .un) (σ.set i x) := by
  obtain ⟨c, q⟩ := r
  refine ⟨c, { q with le := by simp [q.le], tmp := fun j s v h1 h2 => tmp_set hn h1 (q.tmp j s v h1 h2), slt := fun k s h1 => ?_ }⟩
  by_cases hk : k = i
  · subst hk
    by_cases hi : k < env.length
    · rw [List.getElem?_set_self hi] at h1
      cases h1
      trivial
    · rw [List.getElem?_eq_none (by simpa using hi)] at h1
      cases h1
  · rw [List.getElem?_set_ne (Ne.symm hk)] at h1
    exact slt_set hk (q.slt k s h1)

/-! what a name owns is made known for good -/
theorem Rc.cold {c' : Col} (q : Rc K F0 B F H T τ env σ c) (k : Nat ⊕ Nat) :
    ∃ G, Sub F G ∧ Sub G H ∧ (∀ a, G a ≠ none → F0 a ≠ none ∨ B a = none) ∧ (∀ b, c b = some k → G b = H b) ∧ (∀ b, c b ≠ none → c b ≠ some k → G b = none) := by
  refine ⟨fun a => if c a = some k then H a else F a, fun a o e => ?_, fun a o e => ?_, fun a ha => ?_, fun b hb => if_pos hb, fun b h1 h2 => ?_⟩
  · have e2 : c a = none := by
      cases z : c a with
      | none => rfl
      | some y =>
        rw [(q.col a (by rw [z]; exact fun z => nomatch z)).1] at e
        cases e
    show (if c a = some k then H a else F a) = some o
    rw [if_neg (by rw [e2]; exact fun z => nomatch z)]
    exact e
  · have e' : (if c a = some k then H a else F a) = some o := e
    by_cases z : c a = some k
    · rw [if_pos z] at e'
      exact e'
    · rw [if_neg z] at e'
      exact q.fh a o e'
  · have e' : (if c a = some k then H a else F a) ≠ none := ha
    by_cases z : c a = some k
    · exact .inr (q.col a (by rw [z]; exact fun z => nomatch z)).2.1
    · rw [if_neg z] at e'
      exact q.nw a e'
  · show (if c b = some k then H b else F b) = none
    rw [if_neg h2]
    exact (q.col b h1).1
theorem R.freeze (r : R K F0 B F H T τ env σ) (h : env[i]? = some (.ow o)) (hd : o.dat = some d) : ∃ G, Sub F G ∧ R K F0 B G H T τ (env.set i (.fz d)) σ := by
  obtain ⟨c, q⟩ := r
  obtain ⟨G, s1, s2, nw, g1, g2⟩ := q.cold (c' := c) (.inr i)
  have hi : i < env.length := (List.getElem?_eq_some_iff.mp h).1
  let c' : Col := fun x => if c x = some (.inr i) then none else c x
  have c2 : ∀ x k, k ≠ .inr i → c x = some k → c' x = some k := fun x k hk hx => by
    show (if c x = some (.inr i) then _ else _) = _
    rw [if_neg (by rw [hx]; intro z; injection z with z; exact hk z)]
    exact hx
  have c3 : ∀ x, c' x ≠ none → c x ≠ none ∧ c x ≠ some (.inr i) := fun x hx => by
    by_cases e : c x = some (.inr i)
    · exact absurd (show c' x = none from if_pos e) hx
    · exact ⟨by rw [show c' x = c x from if_neg e] at hx; exact hx, e⟩
  refine ⟨G, s1, c', ⟨q.f0.trans s1, s2, q.bh, nw, q.len, by simp [q.le], fun x hx => ?_, fun j s v h1 h2 => ?_, fun k s h1 => ?_⟩⟩
  · obtain ⟨e1, e2⟩ := c3 x hx
    exact ⟨g2 x e1 e2, (q.col x e1).2⟩
  · exact (q.tmp j s v h1 h2).mono s1 (fun _ _ => rfl) fun x hx => c2 x _ (fun z => nomatch z) hx
  · by_cases hk : k = i
    · subst hk
      rw [List.getElem?_set_self hi] at h1
      cases h1
      obtain ⟨a, e, w⟩ := q.slt k _ h
      exact ⟨.ref a, e, w.rep s1 g1 hd⟩
    · rw [List.getElem?_set_ne (Ne.symm hk)] at h1
      exact (q.slt k s h1).mono s1 (fun _ _ => rfl) fun x hx => c2 x _ (fun z => hk (by injection z)) hx
theorem R.freezeT (r : R K F0 B F H (T ++ [.ow o]) (τ ++ [v]) env σ) (hd : o.dat = some d) : ∃ G, Sub F G ∧ R K F0 B G H (T ++ [.fz d]) (τ ++ [v]) env σ := by
  obtain ⟨c, q⟩ := r
  obtain ⟨G, s1, s2, nw, g1, g2⟩ := q.cold (c' := c) (.inl T.length)
  have hl : T.length = τ.length := by
    have := q.len
    simp at this
    exact this
  let c' : Col := fun x => if c x = some (.inl T.length) then none else c x
  have c2 : ∀ x k, k ≠ .inl T.length → c x = some k → c' x = some k := fun x k hk hx => by
    show (if c x = some (.inl T.length) then _ else _) = _
    rw [if_neg (by rw [hx]; intro z; injection z with z; exact hk z)]
    exact hx
  have c3 : ∀ x, c' x ≠ none → c x ≠ none ∧ c x ≠ some (.inl T.length) := fun x hx => by
    by_cases e : c x = some (.inl T.length)
    · exact absurd (show c' x = none from if_pos e) hx
    · exact ⟨by rw [show c' x = c x from if_neg e] at hx; exact hx, e⟩
  have q0 : Rc K F0 B F H T τ env σ c := q.popn rfl
  refine ⟨G, s1, c', Rc.push (s := .fz d) ⟨q.f0.trans s1, s2, q.bh, nw, hl, q.le, fun x hx => ?_, fun j s v h1 h2 => ?_, fun k s h1 => ?_⟩ ?_⟩
  · obtain ⟨e1, e2⟩ := c3 x hx
    exact ⟨g2 x e1 e2, (q.col x e1).2⟩
  · have hj : j < T.length := (List.getElem?_eq_some_iff.mp h1).1
    exact (q0.tmp j s v h1 h2).mono s1 (fun _ _ => rfl) fun x hx => c2 x _ (fun z => by injection z; omega) hx
  · exact (q.slt k s h1).mono s1 (fun _ _ => rfl) fun x hx => c2 x _ (fun z => nomatch z) hx
  · obtain ⟨a, e, w⟩ := q.top
    subst e
    exact w.rep s1 g1 hd

/-! what a name owns is changed -/
theorem Rc.mut {o' : Ow} (q : Rc K F0 B F H T τ env σ c) (h : env[i]? = some (.ow o)) (hh : ∀ b, c b ≠ some (.inr i) → H' b = H b) (hx : ∀ b, c b = some (.inr i) → H' b ≠ none)
    (ho : ∀ a, σ[i]? = some (some (.ref a)) → OwAt K F H' (fun b => c b = some (.inr i)) a o') : Rc K F0 B F H' T τ (env.set i (.ow o')) σ c := by
  have hi : i < env.length := (List.getElem?_eq_some_iff.mp h).1
  have nF : ∀ b u, F b = some u → c b ≠ some (.inr i) := fun b u e z => by
    rw [(q.col b (by rw [z]; exact fun z => nomatch z)).1] at e
    cases e
  have nB : ∀ b u, B b = some u → c b ≠ some (.inr i) := fun b u e z => by
    rw [(q.col b (by rw [z]; exact fun z => nomatch z)).2.1] at e
    cases e
  refine ⟨q.f0, fun a u e => (hh a (nF a u e)).trans (q.fh a u e), fun a u e => (hh a (nB a u e)).trans (q.bh a u e), q.nw, q.len, by simp [q.le], fun b hb => ?_, fun j s v h1 h2 => ?_, fun k s h1 => ?_⟩
  · obtain ⟨e1, e2, e3⟩ := q.col b hb
    refine ⟨e1, e2, ?_⟩
    by_cases z : c b = some (.inr i)
    · exact hx b z
    · rw [hh b z]
      exact e3
  · exact (q.tmp j s v h1 h2).mono (Sub.refl _) (fun x hx => hh x (by rw [hx]; intro z; injection z with z; cases z)) fun _ z => z
  · by_cases hk : k = i
    · subst hk
      rw [List.getElem?_set_self hi] at h1
      cases h1
      obtain ⟨a, e, _⟩ := q.slt k _ h
      exact ⟨a, e, ho a e⟩
    · rw [List.getElem?_set_ne (Ne.symm hk)] at h1
      exact (q.slt k s h1).mono (Sub.refl _) (fun x hx => hh x (by rw [hx]; intro z; injection z with z; injection z with z; exact hk z)) fun _ z => z
/-- a list of our own: its place, and how it is written -/
theorem R.lst {xs : List PyData} (r : R K F0 B F H T τ env σ) (h : env[i]? = some (.ow (.lst xs))) : ∃ a vs, σ[i]? = some (some (.ref a)) ∧ H a = some (.lst vs) ∧ RepA K F vs xs ∧
    ∀ ws ys, RepA K F ws ys → R K F0 B F (upd H a (.lst ws)) T τ (env.set i (.ow (.lst ys))) σ := by
  obtain ⟨c, q⟩ := r
  obtain ⟨a, e, ca, vs, ha, hr⟩ := q.slt i _ h
  refine ⟨a, vs, e, ha, hr, fun ws ys hw => ⟨c, q.mut h (fun b hb => upd_ne fun z => hb (z ▸ ca)) (fun b hb => ?_) fun a' e' => ?_⟩⟩
  · by_cases z : b = a
    · subst z
      rw [upd_same]
      exact fun z => nomatch z
    · rw [upd_ne z]
      exact (q.col b (by rw [hb]; exact fun z => nomatch z)).2.2
  · rw [e] at e'
    cases e'
    exact ⟨ca, ws, upd_same, hw⟩
/-- a dict of our own, its keys ints and texts -/
theorem R.dK {kvs : List (Key × PyData)} (r : R K F0 B F H T τ env σ) (h : env[i]? = some (.ow (.dK kvs))) : ∃ a ws, σ[i]? = some (some (.ref a)) ∧ H a = some (.dK ws) ∧ ws.map (·.1) = kvs.map (·.1) ∧ RepA K F (ws.map (·.2)) (kvs.map (·.2)) ∧
    ∀ ws' kvs', ws'.map (·.1) = kvs'.map (·.1) → RepA K F (ws'.map (·.2)) (kvs'.map (·.2)) → R K F0 B F (upd H a (.dK ws')) T τ (env.set i (.ow (.dK kvs'))) σ := by
  obtain ⟨c, q⟩ := r
  obtain ⟨a, e, ca, vs, ha, hk, hr⟩ := q.slt i _ h
  refine ⟨a, vs, e, ha, hk, hr, fun ws ys h1 h2 => ⟨c, q.mut h (fun b hb => upd_ne fun z => hb (z ▸ ca)) (fun b hb => ?_) fun a' e' => ?_⟩⟩
  · by_cases z : b = a
    · subst z
      rw [upd_same]
      exact fun z => nomatch z
    · rw [upd_ne z]
      exact (q.col b (by rw [hb]; exact fun z => nomatch z)).2.2
  · rw [e] at e'
    cases e'
    exact ⟨ca, ws, upd_same, h1, h2⟩
theorem R.dT {kvs : List (List Key × PyData)} (r : R K F0 B F H T τ env σ) (h : env[i]? = some (.ow (.dT kvs))) : ∃ a ws, σ[i]? = some (some (.ref a)) ∧ H a = some (.dT ws) ∧ ws.map (·.1) = kvs.map (·.1) ∧ RepA K F (ws.map (·.2)) (kvs.map (·.2)) ∧
    ∀ ws' kvs', ws'.map (·.1) = kvs'.map (·.1) → RepA K F (ws'.map (·.2)) (kvs'.map (·.2)) → R K F0 B F (upd H a (.dT ws')) T τ (env.set i (.ow (.dT kvs'))) σ := by
  obtain ⟨c, q⟩ := r
  obtain ⟨a, e, ca, vs, ha, hk, hr⟩ := q.slt i _ h
  refine ⟨a, vs, e, ha, hk, hr, fun ws ys h1 h2 => ⟨c, q.mut h (fun b hb => upd_ne fun z => hb (z ▸ ca)) (fun b hb => ?_) fun a' e' => ?_⟩⟩
  · by_cases z : b = a
    · subst z
      rw [upd_same]
      exact fun z => nomatch z
    · rw [upd_ne z]
      exact (q.col b (by rw [hb]; exact fun z => nomatch z)).2.2
  · rw [e] at e'
    cases e'
    exact ⟨ca, ws, upd_same, h1, h2⟩
end

section
variable {K : Fg} {F0 B F G H H' : Hp} {T S : List Sl} {τ ν : List V} {env : List Sl} {σ : L2.St} {c : Col} {v w : V} {d : PyData} {s : Sl} {o : Ow} {i j : Nat} {p : Addr} {u : HO}
/-- temporaries below the top go -/
theorem R.drop (r : R K F0 B F H (T ++ S ++ [s]) (τ ++ ν ++ [v]) env σ) (hl : S.length = ν.length) : R K F0 B F H (T ++ [s]) (τ ++ [v]) env σ := by
  obtain ⟨c, q⟩ := r
  have q0 : Rc K F0 B F H T τ env σ c := Rc.popn (S := S ++ [s]) (ν := ν ++ [v]) (by rw [← List.append_assoc, ← List.append_assoc]; exact q) (by simp [hl])
  have top := q.top
  rw [List.length_append] at top
  let c' : Col := fun x => if c x = some (.inl (T.length + S.length)) then some (.inl T.length) else if c x = some (.inl T.length) then none else c x
  have c1 : ∀ x, c x = some (.inl (T.length + S.length)) → c' x = some (.inl T.length) := fun x hx => if_pos hx
  have c2 : ∀ x k, k ≠ .inl (T.length + S.length) → k ≠ .inl T.length → c x = some k → c' x = some k := fun x k h1 h2 hx => by
    show (if c x = some (.inl (T.length + S.length)) then _ else if c x = some (.inl T.length) then none else c x) = _
    rw [if_neg (by rw [hx]; intro z; injection z with z; exact h1 z), if_neg (by rw [hx]; intro z; injection z with z; exact h2 z)]
    exact hx
  have c3 : ∀ x, c' x ≠ none → c x ≠ none := fun x hx e => by
    apply hx
    show (if c x = some (.inl (T.length + S.length)) then _ else if c x = some (.inl T.length) then none else c x) = _
    rw [e, if_neg (fun z => nomatch z), if_neg (fun z => nomatch z)]
  refine ⟨c', Rc.push ⟨q0.f0, q0.fh, q0.bh, q0.nw, q0.len, q0.le, fun x hx => q0.col x (c3 x hx), fun j s' v' h1 h2 => ?_, fun k s' h1 => ?_⟩ ?_⟩
  · have hj : j < T.length := (List.getElem?_eq_some_iff.mp h1).1
    exact (q0.tmp j s' v' h1 h2).mono (Sub.refl _) (fun _ _ => rfl) fun x hx => c2 x _ (fun z => by injection z; omega) (fun z => by injection z; omega) hx
  · exact (q0.slt k s' h1).mono (Sub.refl _) (fun _ _ => rfl) fun x hx => c2 x _ (fun z => nomatch z) (fun z => nomatch z) hx
  · cases s with
    | un => trivial
    | fz d => exact top
    | ow o =>
      obtain ⟨a, e, h⟩ := top
      exact ⟨a, e, h.mono (Sub.refl _) (fun _ _ => rfl) c1⟩
    | al i => exact top
    | cst w => exact top
theorem R.under (r : R K F0 B F H (T ++ [s] ++ [.ow o]) (τ ++ [w] ++ [v]) env σ) : R K F0 B F H (T ++ [.ow o]) (τ ++ [v]) env σ := R.drop r rfl
end
end BV

set_option maxHeartbeats 4000000
/-! BV, part c: readings by data; names, numbers, comparisons, tests, displays, statements. -/
namespace BV
open PySem L2

abbrev BEnv := List Sl
abbrev BX := BEnv → (Sl → BEnv → Prop) → Prop
abbrev BT := BEnv → (Bool → BEnv → Prop) → Prop
abbrev BA := BEnv → (List Sl → BEnv → Prop) → Prop
abbrev B1 := Sl → BEnv → (Sl → BEnv → Prop) → Prop
abbrev B2 := Sl → Sl → BEnv → (Sl → BEnv → Prop) → Prop
abbrev BL := List Sl → BEnv → (Sl → BEnv → Prop) → Prop

/-- what is wanted of a value -/
def Wx (K : Fg) (F0 B : Hp) (T : List Sl) (τ : List V) (σ : L2.St) (P : Sl → BEnv → Prop) (Q : VK) : Prop :=
  ∀ s v F' H' env', P s env' → R K F0 B F' H' (T ++ [s]) (τ ++ [v]) env' σ → Q v H'
def SE (K : Fg) (te : TE) (b : BX) : Prop := ∀ F0 B F H T τ env σ Q P, R K F0 B F H T τ env σ → b env P → Wx K F0 B T τ σ P Q → te σ H Q
def ST (K : Fg) (tt : TT) (b : BT) : Prop := ∀ F0 B F H T τ env σ Q P, R K F0 B F H T τ env σ → b env P → (∀ k F' H' env', P k env' → R K F0 B F' H' T τ env' σ → Q k H') → tt σ H Q
def SA (K : Fg) (ta : TA) (b : BA) : Prop := ∀ F0 B F H T τ env σ Q P, R K F0 B F H T τ env σ → b env P → (∀ ss vs F' H' env', P ss env' → ss.length = vs.length → R K F0 B F' H' (T ++ ss) (τ ++ vs) env' σ → Q vs H') → ta σ H Q
def S1 (K : Fg) (r : V → Hp → VK → Prop) (b : B1) : Prop := ∀ F0 B F H T τ env σ s x Q P, R K F0 B F H (T ++ [s]) (τ ++ [x]) env σ → b s env P → Wx K F0 B T τ σ P Q → r x H Q
def S2 (K : Fg) (r : R2) (b : B2) : Prop := ∀ F0 B F H T τ env σ s t x y Q P, R K F0 B F H (T ++ [s] ++ [t]) (τ ++ [x] ++ [y]) env σ → b s t env P → Wx K F0 B T τ σ P Q → r x y H Q
def SL (K : Fg) (r : List V → Hp → VK → Prop) (b : BL) : Prop := ∀ F0 B F H T τ env σ ss vs Q P, ss.length = vs.length → R K F0 B F H (T ++ ss) (τ ++ vs) env σ → b ss env P → Wx K F0 B T τ σ P Q → r vs H Q

/-- the readings of the layer below, by data -/
def teB (K : Fg) (b : BX) : TE := fun σ H Q => ∃ F0 B F T τ env P, R K F0 B F H T τ env σ ∧ b env P ∧ Wx K F0 B T τ σ P Q
def ttB (K : Fg) (b : BT) : TT := fun σ H Q => ∃ F0 B F T τ env P, R K F0 B F H T τ env σ ∧ b env P ∧ ∀ k F' H' env', P k env' → R K F0 B F' H' T τ env' σ → Q k H'
def taB (K : Fg) (b : BA) : TA := fun σ H Q => ∃ F0 B F T τ env P, R K F0 B F H T τ env σ ∧ b env P ∧ ∀ ss vs F' H' env', P ss env' → ss.length = vs.length → R K F0 B F' H' (T ++ ss) (τ ++ vs) env' σ → Q vs H'
theorem se_B {K : Fg} (b : BX) : SE K (teB K b) b := fun F0 B F H T τ env σ Q P r h w => ⟨F0, B, F, T, τ, env, P, r, h, w⟩
theorem st_B {K : Fg} (b : BT) : ST K (ttB K b) b := fun F0 B F H T τ env σ Q P r h w => ⟨F0, B, F, T, τ, env, P, r, h, w⟩
theorem sa_B {K : Fg} (b : BA) : SA K (taB K b) b := fun F0 B F H T τ env σ Q P r h w => ⟨F0, B, F, T, τ, env, P, r, h, w⟩
def BE (X : Cx) (e : Expr) (b : BX) : Prop := PE X e (teB X.K b)
def BTs (X : Cx) (e : Expr) (b : BT) : Prop := PT X e (ttB X.K b)
def BW (X : Cx) (e : Expr) (b : BT) : Prop := PW X e (ttB X.K b)
def BAs (X : Cx) (es : List Expr) (b : BA) : Prop := PA X es (taB X.K b)
theorem be_of {X : Cx} {e : Expr} {te : TE} {b : BX} (h : PE X e te) (hs : SE X.K te b) : BE X e b := ⟨fun pins s σ H Q I ⟨F0, B, F, T, τ, env, P, r, p, w⟩ => h.run pins s σ H Q I (hs F0 B F H T τ env σ Q P r p w)⟩
theorem bt_of {X : Cx} {e : Expr} {te : TT} {b : BT} (h : PT X e te) (hs : ST X.K te b) : BTs X e b := ⟨fun pins s σ H Q I ⟨F0, B, F, T, τ, env, P, r, p, w⟩ => h.run pins s σ H Q I (hs F0 B F H T τ env σ Q P r p w)⟩
theorem bw_of {X : Cx} {e : Expr} {te : TT} {b : BT} (h : PW X e te) (hs : ST X.K te b) : BW X e b := ⟨fun wh pins s σ H Q I ⟨F0, B, F, T, τ, env, P, r, p, w⟩ => h.run wh pins s σ H Q I (hs F0 B F H T τ env σ Q P r p w)⟩
theorem ba_of {X : Cx} {e : List Expr} {te : TA} {b : BA} (h : PA X e te) (hs : SA X.K te b) : BAs X e b := ⟨fun wh pins s σ H Q I ⟨F0, B, F, T, τ, env, P, r, p, w⟩ => h.run wh pins s σ H Q I (hs F0 B F H T τ env σ Q P r p w)⟩

/-! ### what a value tells -/
def asInt (s : Sl) (k : Int → Prop) : Prop := match s with | .fz (.int i) => k i | _ => False
def asInts (s t : Sl) (k : Int → Int → Prop) : Prop := match s, t with | .fz (.int i), .fz (.int j) => k i j | _, _ => False
def asBool (s : Sl) (k : Bool → Prop) : Prop := match s with | .fz (.bool b) => k b | _ => False
def asStr (s : Sl) (k : Str → Prop) : Prop := match s with | .fz (.str z) => k z | _ => False
def asStrs (s t : Sl) (k : Str → Str → Prop) : Prop := match s, t with | .fz (.str i), .fz (.str j) => k i j | _, _ => False
theorem asInt_of {s : Sl} {k : Int → Prop} (h : asInt s k) : ∃ i, s = .fz (.int i) ∧ k i := by
  unfold asInt at h
  split at h
  · exact ⟨_, rfl, h⟩
  · exact h.elim
theorem asInts_of {s t : Sl} {k : Int → Int → Prop} (h : asInts s t k) : ∃ i j, s = .fz (.int i) ∧ t = .fz (.int j) ∧ k i j := by
  unfold asInts at h
  split at h
  · exact ⟨_, _, rfl, rfl, h⟩
  · exact h.elim
theorem asBool_of {s : Sl} {k : Bool → Prop} (h : asBool s k) : ∃ i, s = .fz (.bool i) ∧ k i := by
  unfold asBool at h
  split at h
  · exact ⟨_, rfl, h⟩
  · exact h.elim
theorem asStr_of {s : Sl} {k : Str → Prop} (h : asStr s k) : ∃ i, s = .fz (.str i) ∧ k i := by
  unfold asStr at h
  split at h
  · exact ⟨_, rfl, h⟩
  · exact h.elim
theorem asStrs_of {s t : Sl} {k : Str → Str → Prop} (h : asStrs s t k) : ∃ i j, s = .fz (.str i) ∧ t = .fz (.str j) ∧ k i j := by
  unfold asStrs at h
  split at h
  · exact ⟨_, _, rfl, rfl, h⟩
  · exact h.elim

/-- a slot as data, also where a name owns it -/
def vw (e : BEnv) : Sl → Option PyData
  | .fz d => some d
  | .ow o => o.dat
  | .al i => match e[i]? with
    | some (.ow o) => o.dat
    | _ => none
  | _ => none
def asView (s : Sl) (e : BEnv) (k : PyData → Prop) : Prop := match vw e s with | some d => k d | none => False
theorem asView_of {s : Sl} {e : BEnv} {k : PyData → Prop} (h : asView s e k) : ∃ d, vw e s = some d ∧ k d := by
  unfold asView at h
  split at h
  · exact ⟨_, by assumption, h⟩
  · exact h.elim
/-- the items of a list that is read: known, owned by a name, or a temporary -/
def itemsL (e : BEnv) : Sl → Option (List PyData)
  | .fz (.list ds) => some ds
  | .ow (.lst ds) => some ds
  | .al i => match e[i]? with
    | some (.ow (.lst ds)) => some ds
    | _ => none
  | _ => none
def itemsT : Sl → Option (List PyData)
  | .fz (.tuple ds) => some ds
  | _ => none

section
variable {K : Fg} {F0 B F H : Hp} {T S : List Sl} {τ ν : List V} {env : BEnv} {σ : L2.St} {v x y : V} {d : PyData} {s t : Sl}
theorem R.view (r : R K F0 B F H (T ++ [s]) (τ ++ [v]) env σ) (h : vw env s = some d) : Rep K H v d := by
  obtain ⟨c, q⟩ := r
  have top := q.top
  cases s with
  | un => cases h
  | fz d' =>
    cases h
    exact Rep.mono q.fh top
  | ow o =>
    obtain ⟨a, rfl, w⟩ := top
    exact w.rep q.fh (fun _ _ => rfl) h
  | al i =>
    have e2 : σ[i]? = some (some v) := top
    have h' : (match env[i]? with | some (.ow o) => o.dat | _ => none) = some d := h
    split at h'
    · rename_i o e
      obtain ⟨a, e1, w⟩ := q.slt i _ e
      rw [e1] at e2
      cases e2
      exact w.rep q.fh (fun _ _ => rfl) h'
    · cases h'
  | cst w => cases h
theorem R.itemsL {ds : List PyData} (r : R K F0 B F H (T ++ [s]) (τ ++ [v]) env σ) (h : itemsL env s = some ds) : ∃ a vs, v = .ref a ∧ SqL K H a vs ∧ RepA K F vs ds := by
  obtain ⟨c, q⟩ := r
  have top := q.top
  cases s with
  | un => cases h
  | fz d' =>
    have top' : Rep K F v d' := top
    cases d' with
    | list es =>
      cases h
      cases top' with
      | lst z w => exact ⟨_, _, rfl, q.fh.sqL z, w⟩
    | _ => cases h
  | ow o =>
    obtain ⟨a, rfl, w⟩ := top
    cases o with
    | lst xs =>
      cases h
      obtain ⟨_, vs, e, z⟩ := w
      exact ⟨a, vs, rfl, .of e, z⟩
    | _ => cases h
  | al i =>
    have e2 : σ[i]? = some (some v) := top
    have h' : (match env[i]? with | some (.ow (.lst ds)) => some ds | _ => none) = some ds := h
    split at h'
    · rename_i e
      cases h'
      obtain ⟨a, e1, _, vs, e, z⟩ := q.slt _ _ e
      rw [e1] at e2
      cases e2
      exact ⟨a, vs, rfl, .of e, z⟩
    · cases h'
  | cst w => cases h
theorem R.itemsT {ds : List PyData} (r : R K F0 B F H (T ++ [s]) (τ ++ [v]) env σ) (h : itemsT s = some ds) : ∃ a vs, v = .ref a ∧ SqT K H a vs ∧ SqT K F a vs ∧ RepA K F vs ds := by
  obtain ⟨c, q⟩ := r
  have top := q.top
  cases s with
  | fz d' =>
    have top' : Rep K F v d' := top
    cases d' with
    | tuple es =>
      cases h
      cases top' with
      | tup z w => exact ⟨_, _, rfl, q.fh.sqT z, z, w⟩
    | _ => cases h
  | _ => cases h
theorem R.mid (r : R K F0 B F H (T ++ [s] ++ [t]) (τ ++ [x] ++ [y]) env σ) : R K F0 B F H (T ++ [s]) (τ ++ [x]) env σ := r.pop
end

/-! ### expressions -/
section
variable {X : Cx} {K : Fg}

theorem Wx.fz {F0 B F H : Hp} {T : List Sl} {τ : List V} {σ : L2.St} {P : Sl → BEnv → Prop} {Q : VK} {env : BEnv} {v : V} {d : PyData} (w : Wx K F0 B T τ σ P Q) (r : R K F0 B F H T τ env σ) (h : Rep K F v d) (p : P (.fz d) env) : Q v H := w _ _ _ _ _ p (r.push_fz h)

def bVar (i : Nat) : BX := fun e P => match e[i]? with
  | some (.fz d) => P (.fz d) e
  | some (.ow _) => P (.al i) e
  | _ => False
theorem se_var (i : Nat) : SE K (tVar i) (bVar i) := fun F0 B F H T τ env σ Q P r h w => by
  unfold bVar at h
  split at h
  · rename_i d e
    obtain ⟨v, e1, z⟩ := r.slot_fz e
    exact ⟨v, e1, w.fz r z h⟩
  · rename_i o e
    obtain ⟨a, e1⟩ := r.slot_ow e
    exact ⟨_, e1, w _ _ _ _ _ h (r.push_al e1)⟩
  · exact h.elim
theorem bv (i : Nat) {x : Str} {pos : Pos} (hN : X.N[i]? = some x := by rfl) (hv : Vis X.env.scope x := by first | exact Or.inl rfl | exact Or.inr (Or.inl rfl) | exact Or.inr (Or.inr rfl)) (hd : (x == ("__debug__" : Str)) = false := by decide)
    (hcd : (x == ("__classdict__" : Str)) = false := by decide) : BE X (.Name x pos) (bVar i) := be_of (pe_var hN hv hd hcd) (se_var i)
def bC (s : Sl) : BX := fun e P => P s e
theorem se_fz {v : V} {d : PyData} (h : ∀ F, Rep K F v d) : SE K (tC v) (bC (.fz d)) := fun F0 B F H T τ env σ Q P r p w => w.fz r (h F) p
theorem be_int {i j pos} : BE X (.Constant (.int i) j pos) (bC (.fz (.int i))) := be_of pe_int (se_fz fun _ => .int i)
theorem be_bl {b j pos} : BE X (.Constant (.bool b) j pos) (bC (.fz (.bool b))) := be_of pe_bl (se_fz fun _ => .bl b)
theorem be_non {j pos} : BE X (.Constant .none j pos) (bC (.fz .none)) := be_of pe_non (se_fz fun _ => .non)
theorem be_str {z j pos} : BE X (.Constant (.str z) j pos) (bC (.fz (.str z))) := be_of pe_str (se_fz fun _ => .str z)
theorem se_cst {v : V} : SE K (tC v) (bC (.cst v)) := fun F0 B F H T τ env σ Q P r p w => w _ _ _ _ _ p r.push_cst
/-- a module's int -/
theorem be_gint {x : Str} {pos : Pos} {i : Int} {t : Tok} (hg : Gl X x) (hm : X.mg x = some (.int i t)) (hd : (x == ("__debug__" : Str)) = false := by decide) : BE X (.Name x pos) (bC (.fz (.int i))) := be_of (pe_glob (v := .int i) hg hm ⟨t, rfl⟩ hd) (se_fz fun _ => .int i)
theorem be_gstr {x : Str} {pos : Pos} {z : Str} {t : Tok} (hg : Gl X x) (hm : X.mg x = some (.str z t)) (hd : (x == ("__debug__" : Str)) = false := by decide) : BE X (.Name x pos) (bC (.fz (.str z))) := be_of (pe_glob (v := .str z) hg hm ⟨t, rfl⟩ hd) (se_fz fun _ => .str z)

def bOp (r : B2) (a b : BX) : BX := fun e P => a e fun s e1 => b e1 fun t e2 => r s t e2 P
theorem se_op {r : R2} {rb : B2} {ta tb : TE} {a b : BX} (hr : S2 K r rb) (ha : SE K ta a) (hb : SE K tb b) : SE K (tOp r ta tb) (bOp rb a b) := fun F0 B F H T τ env σ Q P q h w =>
  ha F0 B F H T τ env σ _ _ q h fun s v F1 H1 e1 h1 q1 => hb F0 B F1 H1 (T ++ [s]) (τ ++ [v]) e1 σ _ _ q1 h1 fun t u F2 H2 e2 h2 q2 => hr F0 B F2 H2 T τ e2 σ s t v u Q P q2 h2 w
theorem be_op {op : Operator} {x y : Expr} {pos : Pos} {r : R2} {rb : B2} {a b : BX} (ho : OpR X (binaryOp op) r) (hr : S2 X.K r rb) (ha : BE X x a) (hb : BE X y b) : BE X (.BinOp x op y pos) (bOp rb a b) :=
  be_of (pe_op ho ha hb) (se_op hr (se_B a) (se_B b))
/-- a comparison leaves its operands -/
def S2k (K : Fg) (r : R2) (b : B2) : Prop := ∀ F0 B F H T τ env σ s t x y Q P, R K F0 B F H (T ++ [s] ++ [t]) (τ ++ [x] ++ [y]) env σ → b s t env P → Wx K F0 B (T ++ [s] ++ [t]) (τ ++ [x] ++ [y]) σ P Q → r x y H Q
theorem S2k.s2 {r : R2} {b : B2} (h : S2k K r b) : S2 K r b := fun F0 B F H T τ env σ s t x y Q P r h1 w => h F0 B F H T τ env σ s t x y Q P r h1 fun s' v F' H' env' p q => w s' v F' H' env' p (R.drop (S := [s, t]) (ν := [x, y]) (by
  have q' := q
  simp only [List.append_assoc, List.cons_append, List.nil_append] at q' ⊢
  exact q') rfl)
structure Cq (X : Cx) (op : CmpOp) (rb : B2) : Prop where
  ex : ∃ r, OpR X (compareOp op) r ∧ S2k X.K r rb
theorem be_cmp {op : CmpOp} {x y : Expr} {pos : Pos} {rb : B2} {a b : BX} (c : Cq X op rb) (ha : BE X x a) (hb : BE X y b) (hm : behindInMarks op y = false := by first | exact nomark _ | rfl) : BE X (.Compare x [op] [y] pos) (bOp rb a b) :=
  let ⟨_, ho, hr⟩ := c.ex
  be_of (pe_cmpR ho ha hb hm) (se_op hr.s2 (se_B a) (se_B b))
def bB (b : BX) : BT := fun e P => b e fun s e1 => asBool s fun k => P k e1
theorem st_B' {te : TE} {b : BX} (h : SE K te b) : ST K (fun σ H Q => te σ H fun x H' => ∃ k, x = .bl k ∧ Q k H') (bB b) := fun F0 B F H T τ env σ Q P r p w =>
  h F0 B F H T τ env σ _ _ r p fun s v F1 H1 e1 h1 q1 => by
    obtain ⟨k, rfl, p1⟩ := asBool_of h1
    have hk : v = .bl k := by
      have := q1.top_fz
      cases this
      rfl
    exact ⟨k, hk, w k F1 H1 e1 p1 q1.pop⟩
theorem bt_cmp {op : CmpOp} {x y : Expr} {pos : Pos} {rb : B2} {a b : BX} (c : Cq X op rb) (ha : BE X x a) (hb : BE X y b) (hm : behindInMarks op y = false := by first | exact nomark _ | rfl) : BTs X (.Compare x [op] [y] pos) (bB (bOp rb a b)) :=
  let ⟨_, ho, hr⟩ := c.ex
  bt_of (pt_cmpR ho ha hb hm) (st_B' (se_op hr.s2 (se_B a) (se_B b)))
/-- an expression that is a bool, as a test -/
theorem bt_val {x : Expr} {b : BX} (h : BE X x b) (he : ∀ whole, isTrue x X.env whole = (do let v ← whole; standAt x.pos; holding [v] (truthy v)) := by intro _; rfl) : BTs X x (bB b) := bt_of (pt_val h he) (st_B' (se_B b))
def bUn (r : B1) (a : BX) : BX := fun e P => a e fun s e1 => r s e1 P
theorem se_un {r : V → Hp → VK → Prop} {rb : B1} {ta : TE} {a : BX} (hr : S1 K r rb) (ha : SE K ta a) : SE K (tUn r ta) (bUn rb a) := fun F0 B F H T τ env σ Q P q h w =>
  ha F0 B F H T τ env σ _ _ q h fun s v F1 H1 e1 h1 q1 => hr F0 B F1 H1 T τ e1 σ s v Q P q1 h1 w
theorem be_un {op : UnaryOp} {x : Expr} {pos : Pos} {r : V → Hp → VK → Prop} {rb : B1} {a : BX} (ho : UnR X (unaryOp op) r) (hr : S1 X.K r rb) (ha : BE X x a) : BE X (.UnaryOp op x pos) (bUn rb a) :=
  be_of (pe_un ho ha) (se_un hr (se_B a))

/-! operators on ints -/
theorem int_of {F : Hp} {v : V} {i : Int} (h : Rep K F v (.int i)) : v = .int i := by
  cases h
  rfl
theorem bool_of {F : Hp} {v : V} {b : Bool} (h : Rep K F v (.bool b)) : v = .bl b := by
  cases h
  rfl
theorem str_of {F : Hp} {v : V} {z : Str} (h : Rep K F v (.str z)) : v = .str z := by
  cases h
  rfl
theorem s2_I0 {g : Int → Int → V} {gd : Int → Int → PyData} (hg : ∀ F i j, Rep K F (g i j) (gd i j)) : S2 K (rI0 g) (fun s t e P => asInts s t fun i j => P (.fz (gd i j)) e) := fun F0 B F H T τ env σ s t x y Q P r h w => by
  obtain ⟨i, j, rfl, rfl, p⟩ := asInts_of h
  have h1 := int_of r.two_fz
  have h2 := int_of r.top_fz
  subst h1
  subst h2
  exact ⟨i, j, rfl, rfl, w.fz r.pop.pop (hg _ _ _) p⟩
theorem s2_I {C : Int → Int → Prop} {g : Int → Int → V} {gd : Int → Int → PyData} (hg : ∀ F i j, Rep K F (g i j) (gd i j)) : S2 K (rI C g) (fun s t e P => asInts s t fun i j => C i j ∧ P (.fz (gd i j)) e) := fun F0 B F H T τ env σ s t x y Q P r h w => by
  obtain ⟨i, j, rfl, rfl, c, p⟩ := asInts_of h
  have h1 := int_of r.two_fz
  have h2 := int_of r.top_fz
  subst h1
  subst h2
  exact ⟨i, j, rfl, rfl, c, w.fz r.pop.pop (hg _ _ _) p⟩
def bII (g : Int → Int → Int) : B2 := fun s t e P => asInts s t fun i j => P (.fz (.int (g i j))) e
def bIC (C : Int → Int → Prop) (g : Int → Int → Int) : B2 := fun s t e P => asInts s t fun i j => C i j ∧ P (.fz (.int (g i j))) e
def bIB (g : Int → Int → Bool) : B2 := fun s t e P => asInts s t fun i j => P (.fz (.bool (g i j))) e
section
variable {x y : Expr} {pos : Pos} {a b : BX} (ha : BE X x a) (hb : BE X y b)
include ha hb
theorem be_add : BE X (.BinOp x .Add y pos) (bOp (bII fun i j => i + j) a b) := be_op op_add (s2_I0 fun _ _ _ => .int _) ha hb
theorem be_sub : BE X (.BinOp x .Sub y pos) (bOp (bII fun i j => i - j) a b) := be_op op_sub (s2_I0 fun _ _ _ => .int _) ha hb
theorem be_mul : BE X (.BinOp x .Mult y pos) (bOp (bIC CMul fun i j => i * j) a b) := be_op op_mul (s2_I fun _ _ _ => .int _) ha hb
theorem be_fdiv : BE X (.BinOp x .FloorDiv y pos) (bOp (bIC CDiv fun i j => i / j) a b) := be_op op_fdiv (s2_I fun _ _ _ => .int _) ha hb
theorem be_mod : BE X (.BinOp x .Mod y pos) (bOp (bIC (fun _ j => 0 < j) fun i j => i % j) a b) := be_op op_mod (s2_I fun _ _ _ => .int _) ha hb
theorem be_pow : BE X (.BinOp x .Pow y pos) (bOp (bIC CPow fun i j => i ^ j.toNat) a b) := be_op op_pow (s2_I fun _ _ _ => .int _) ha hb
end
theorem s2k_I0 {g : Int → Int → Bool} : S2k K (rI0 fun i j => .bl (g i j)) (bIB g) := fun F0 B F H T τ env σ s t x y Q P r h w => by
  obtain ⟨i, j, rfl, rfl, p⟩ := asInts_of h
  have h1 := int_of r.two_fz
  have h2 := int_of r.top_fz
  subst h1
  subst h2
  exact ⟨i, j, rfl, rfl, w.fz r (.bl _) p⟩
theorem cr_lt : Cq X .Lt (bIB fun i j => decide (i < j)) := ⟨_, op_lt, s2k_I0⟩
theorem cr_le : Cq X .LtE (bIB fun i j => decide (i ≤ j)) := ⟨_, op_le, s2k_I0⟩
theorem cr_gt : Cq X .Gt (bIB fun i j => decide (j < i)) := ⟨_, op_gt, s2k_I0⟩
theorem cr_ge : Cq X .GtE (bIB fun i j => decide (j ≤ i)) := ⟨_, op_ge, s2k_I0⟩
theorem be_neg {x : Expr} {pos : Pos} {a : BX} (ha : BE X x a) : BE X (.UnaryOp .USub x pos) (bUn (fun s e P => asInt s fun i => P (.fz (.int (-i))) e) a) :=
  be_un un_neg (fun F0 B F H T τ env σ s x Q P r h w => by
    obtain ⟨i, rfl, p⟩ := asInt_of h
    have h1 := int_of r.top_fz
    subst h1
    exact ⟨i, rfl, w.fz r.pop (.int _) p⟩) ha

/-! == and != of data -/
mutual
theorem Rep.dp {F : Hp} : ∀ {v : V} {d : PyData}, Rep K F v d → d.canLay0 = true → Dp K F v d
  | _, _, .non, _ => .non
  | _, _, .bl b, _ => .bl b
  | _, _, .int i, _ => .int i
  | _, _, .str z, _ => .str z
  | _, _, .lst (ds := ds) q r, h => .lst q (RepA.dp r (by simpa [PyData.canLay0] using h))
  | _, _, .tup q r, h => .tup q (RepA.dp r (by simpa [PyData.canLay0] using h))
  | _, _, .dK q r e, h => by simp [PyData.canLay0] at h
  | _, _, .dT q r e, h => by simp [PyData.canLay0] at h
theorem RepA.dp {F : Hp} : ∀ {vs : List V} {ds : List PyData}, RepA K F vs ds → PyData.canLayAll0 ds = true → DpAll K F vs ds
  | _, _, .nil, _ => .nil
  | _, _, .cons a b, h => by
    have h' := h
    simp only [PyData.canLayAll0, Bool.and_eq_true] at h'
    exact .cons (Rep.dp a h'.1) (RepA.dp b h'.2)
end
def bEq (neg : Bool) : B2 := fun s t e P => asView s e fun d => asView t e fun d' => (SeqAt.shaped d = true ∧ SeqAt.shaped d' = true) ∧ P (.fz (.bool (neg != PyData.eqv d d'))) e
theorem s2_eqv {neg : Bool} {r : R2} (hr : ∀ x y H Q, (∃ d e, Dp K H x d ∧ Dp K H y e ∧ SeqAt.shaped d = true ∧ SeqAt.shaped e = true ∧ Q (.bl (neg != PyData.eqv d e)) H) → r x y H Q) : S2k K r (bEq neg) := fun F0 B F H T τ env σ s t x y Q P r h w => by
  obtain ⟨d, e1, h⟩ := asView_of h
  obtain ⟨d', e2, ⟨s1, s2⟩, p⟩ := asView_of h
  have r1 := R.view r.pop e1
  have r2 := R.view r e2
  exact hr _ _ _ _ ⟨d, d', r1.dp (SeqAt.canLay_of_shaped s1), r2.dp (SeqAt.canLay_of_shaped s2), s1, s2, w.fz r (.bl _) p⟩
theorem cr_eq (hu : X.A.units + 64 < cLine) : Cq X .Eq (bEq false) := ⟨_, op_eqD hu, s2_eqv fun x y H Q ⟨d, e, h1, h2, h3, h4, q⟩ => ⟨d, e, h1, h2, h3, h4, by simpa using q⟩⟩
theorem cr_ne (hu : X.A.units + 64 < cLine) : Cq X .NotEq (bEq true) := ⟨_, op_neD hu, s2_eqv fun x y H Q ⟨d, e, h1, h2, h3, h4, q⟩ => ⟨d, e, h1, h2, h3, h4, by simpa using q⟩⟩
/-- x is None, is not None -/
def isN : PyData → Bool
  | .none => true
  | _ => false
theorem isN_of {F : Hp} {v : V} {d : PyData} (h : Rep K F v d) : decide (v = .non) = isN d := by
  cases h <;> rfl
def bIsN (neg : Bool) : B2 := fun s t e P => asView s e fun d => t matches .fz .none ∧ P (.fz (.bool (neg != isN d))) e
theorem s2_isN {neg : Bool} {r : R2} (hr : ∀ x y H Q, (y = .non ∧ Q (.bl (neg != decide (x = .non))) H) → r x y H Q) : S2k K r (bIsN neg) := fun F0 B F H T τ env σ s t x y Q P r h w => by
  obtain ⟨d, e1, e2, p⟩ := asView_of h
  have r1 := R.view r.pop e1
  split at e2
  · have e3 : y = .non := by
      have := r.top_fz
      cases this
      rfl
    refine hr _ _ _ _ ⟨e3, ?_⟩
    rw [isN_of r1]
    exact w.fz r (.bl _) p
  · cases e2
theorem cr_is : Cq X .Is (bIsN false) := ⟨_, op_isN, s2_isN fun x y H Q ⟨h, q⟩ => ⟨h, by simpa using q⟩⟩
theorem cr_isnot : Cq X .IsNot (bIsN true) := ⟨_, op_notN, s2_isN fun x y H Q ⟨h, q⟩ => ⟨h, by simpa using q⟩⟩
/-- a < b < c -/
def bChain (r r' : B2) (a b c : BX) : BX := fun e P => a e fun s e1 => b e1 fun t e2 => r s t e2 fun z e3 => asBool z fun k => if k = true then c e3 fun u e4 => r' t u e4 P else P (.fz (.bool false)) e3
theorem se_chain {r r' : R2} {rb rb' : B2} {ta tb tc : TE} {a b c : BX} (hr : S2k K r rb) (hr' : S2k K r' rb') (ha : SE K ta a) (hb : SE K tb b) (hc : SE K tc c) : SE K (tChain r r' ta tb tc) (bChain rb rb' a b c) := fun F0 B F H T τ env σ Q P q h w =>
  ha F0 B F H T τ env σ _ _ q h fun s v F1 H1 e1 h1 q1 => hb F0 B F1 H1 (T ++ [s]) (τ ++ [v]) e1 σ _ _ q1 h1 fun t u F2 H2 e2 h2 q2 => hr F0 B F2 H2 T τ e2 σ s t v u _ _ q2 h2 fun z b' F3 H3 e3 h3 q3 => by
    obtain ⟨k, rfl, h4⟩ := asBool_of h3
    have hk := bool_of q3.top_fz
    refine ⟨k, hk, ?_⟩
    cases k with
    | true =>
      rw [if_pos rfl] at h4 ⊢
      exact hc F0 B F3 H3 (T ++ [s] ++ [t]) (τ ++ [v] ++ [u]) e3 σ _ _ q3.pop h4 fun p y F4 H4 e4 h5 q4 => hr'.s2 F0 B F4 H4 (T ++ [s]) (τ ++ [v]) e4 σ t p u y Q P q4 h5 fun s' v' F5 H5 e5 h6 q5 => w s' v' F5 H5 e5 h6 (R.drop q5 rfl)
    | false =>
      rw [if_neg Bool.false_ne_true] at h4 ⊢
      exact w.fz q3.pop.pop.pop (.bl _) h4
theorem be_chain {op op' : CmpOp} {x y z : Expr} {pos : Pos} {rb rb' : B2} {a b c : BX} (c1 : Cq X op rb) (c2 : Cq X op' rb') (ha : BE X x a) (hb : BE X y b) (hc : BE X z c) (hm : lastMarks [op, op'] [y, z] = false := by with_unfolding_all rfl) : BE X (.Compare x [op, op'] [y, z] pos) (bChain rb rb' a b c) :=
  let ⟨_, ho, hr⟩ := c1.ex
  let ⟨_, ho', hr'⟩ := c2.ex
  be_of (pe_chain ho ho' ha hb hc hm) (se_chain hr hr' (se_B a) (se_B b) (se_B c))
theorem bt_chain {op op' : CmpOp} {x y z : Expr} {pos : Pos} {rb rb' : B2} {a b c : BX} (c1 : Cq X op rb) (c2 : Cq X op' rb') (ha : BE X x a) (hb : BE X y b) (hc : BE X z c) (hm : lastMarks [op, op'] [y, z] = false := by with_unfolding_all rfl) : BTs X (.Compare x [op, op'] [y, z] pos) (bB (bChain rb rb' a b c)) :=
  let ⟨_, ho, hr⟩ := c1.ex
  let ⟨_, ho', hr'⟩ := c2.ex
  bt_of (pt_chain ho ho' ha hb hc hm) (st_B' (se_chain hr hr' (se_B a) (se_B b) (se_B c)))

/-! and, or, not; a if t else b -/
def bAnd (a b : BT) : BT := fun e P => a e fun k e1 => if k = true then b e1 P else P false e1
def bOr (a b : BT) : BT := fun e P => a e fun k e1 => if k = true then P true e1 else b e1 P
def bNot (a : BT) : BT := fun e P => a e fun k e1 => P (!k) e1
theorem st_and {ta tb : TT} {a b : BT} (ha : ST K ta a) (hb : ST K tb b) : ST K (tAnd ta tb) (bAnd a b) := fun F0 B F H T τ env σ Q P r h w =>
  ha F0 B F H T τ env σ _ _ r h fun k F1 H1 e1 h1 q1 => by
    cases k with
    | true =>
      rw [if_pos rfl] at h1 ⊢
      exact hb F0 B F1 H1 T τ e1 σ Q P q1 h1 w
    | false =>
      rw [if_neg Bool.false_ne_true] at h1 ⊢
      exact w _ _ _ _ h1 q1
theorem st_or {ta tb : TT} {a b : BT} (ha : ST K ta a) (hb : ST K tb b) : ST K (tOr ta tb) (bOr a b) := fun F0 B F H T τ env σ Q P r h w =>
  ha F0 B F H T τ env σ _ _ r h fun k F1 H1 e1 h1 q1 => by
    cases k with
    | true =>
      rw [if_pos rfl] at h1 ⊢
      exact w _ _ _ _ h1 q1
    | false =>
      rw [if_neg Bool.false_ne_true] at h1 ⊢
      exact hb F0 B F1 H1 T τ e1 σ Q P q1 h1 w
theorem bw_and {x y : Expr} {rest : List Expr} {pos : Pos} {a b : BT} (ha : BTs X x a) (hb : BW X (.BoolOp .And (y :: rest) pos) b) : BW X (.BoolOp .And (x :: y :: rest) pos) (bAnd a b) := bw_of (pw_and ha hb) (st_and (st_B a) (st_B b))
theorem bw_or {x y : Expr} {rest : List Expr} {pos : Pos} {a b : BT} (ha : BTs X x a) (hb : BW X (.BoolOp .Or (y :: rest) pos) b) : BW X (.BoolOp .Or (x :: y :: rest) pos) (bOr a b) := bw_of (pw_or ha hb) (st_or (st_B a) (st_B b))
theorem bw_and1 {x : Expr} {pos : Pos} {a : BT} (ha : BTs X x a) : BW X (.BoolOp .And [x] pos) a := pw_and1 ha
theorem bw_or1 {x : Expr} {pos : Pos} {a : BT} (ha : BTs X x a) : BW X (.BoolOp .Or [x] pos) a := pw_or1 ha
theorem BW.bt {x : Expr} {a : BT} (h : BW X x a) : BTs X x a := PW.pt h
theorem bt_not {x : Expr} {pos : Pos} {a : BT} (ha : BTs X x a) : BTs X (.UnaryOp .Not x pos) (bNot a) := bt_of (pt_not ha) fun F0 B F H T τ env σ Q P r h w => st_B a F0 B F H T τ env σ _ _ r h fun k F1 H1 e1 h1 q1 => w _ _ _ _ h1 q1
def bIf (t : BT) (a b : BX) : BX := fun e P => t e fun k e1 => if k = true then a e1 P else b e1 P
theorem be_if {t x y : Expr} {pos : Pos} {c : BT} {a b : BX} (ht : BTs X t c) (ha : BE X x a) (hb : BE X y b) : BE X (.IfExp t x y pos) (bIf c a b) := be_of (pe_ifExp ht ha hb) fun F0 B F H T τ env σ Q P r h w =>
  st_B c F0 B F H T τ env σ _ _ r h fun k F1 H1 e1 h1 q1 => by
    cases k with
    | true =>
      rw [if_pos rfl] at h1 ⊢
      exact se_B a F0 B F1 H1 T τ e1 σ Q P q1 h1 w
    | false =>
      rw [if_neg Bool.false_ne_true] at h1 ⊢
      exact se_B b F0 B F1 H1 T τ e1 σ Q P q1 h1 w
/-- as values: all but the last are bools -/
def bAndV (a b : BX) : BX := fun e P => a e fun s e1 => asBool s fun k => if k = true then b e1 P else P (.fz (.bool false)) e1
def bOrV (a b : BX) : BX := fun e P => a e fun s e1 => asBool s fun k => if k = true then P (.fz (.bool true)) e1 else b e1 P
def bNotV (a : BX) : BX := fun e P => a e fun s e1 => asBool s fun k => P (.fz (.bool (!k))) e1
theorem be_and {x y : Expr} {rest : List Expr} {pos : Pos} {a b : BX} (ha : BE X x a) (hb : BE X (.BoolOp .And (y :: rest) pos) b) : BE X (.BoolOp .And (x :: y :: rest) pos) (bAndV a b) := be_of (pe_and ha hb) fun F0 B F H T τ env σ Q P r h w =>
  se_B a F0 B F H T τ env σ _ _ r h fun s v F1 H1 e1 h1 q1 => by
    obtain ⟨k, rfl, h2⟩ := asBool_of h1
    refine ⟨k, bool_of q1.top_fz, ?_⟩
    cases k with
    | true =>
      rw [if_pos rfl] at h2 ⊢
      exact se_B b F0 B F1 H1 T τ e1 σ Q P q1.pop h2 w
    | false =>
      rw [if_neg Bool.false_ne_true] at h2 ⊢
      exact w.fz q1.pop (.bl _) h2
theorem be_or {x y : Expr} {rest : List Expr} {pos : Pos} {a b : BX} (ha : BE X x a) (hb : BE X (.BoolOp .Or (y :: rest) pos) b) : BE X (.BoolOp .Or (x :: y :: rest) pos) (bOrV a b) := be_of (pe_or ha hb) fun F0 B F H T τ env σ Q P r h w =>
  se_B a F0 B F H T τ env σ _ _ r h fun s v F1 H1 e1 h1 q1 => by
    obtain ⟨k, rfl, h2⟩ := asBool_of h1
    refine ⟨k, bool_of q1.top_fz, ?_⟩
    cases k with
    | true =>
      rw [if_pos rfl] at h2 ⊢
      exact w.fz q1.pop (.bl _) h2
    | false =>
      rw [if_neg Bool.false_ne_true] at h2 ⊢
      exact se_B b F0 B F1 H1 T τ e1 σ Q P q1.pop h2 w
theorem be_one {op : BoolOp} {x : Expr} {pos : Pos} {a : BX} (ha : BE X x a) : BE X (.BoolOp op [x] pos) a := pe_one ha
theorem be_notV {x : Expr} {pos : Pos} {a : BX} (ha : BE X x a) : BE X (.UnaryOp .Not x pos) (bNotV a) := be_of (pe_not ha) fun F0 B F H T τ env σ Q P r h w =>
  se_B a F0 B F H T τ env σ _ _ r h fun s v F1 H1 e1 h1 q1 => by
    obtain ⟨k, rfl, h2⟩ := asBool_of h1
    exact ⟨k, bool_of q1.top_fz, w.fz q1.pop (.bl _) h2⟩

/-! arguments, displays -/
def bNil : BA := fun e P => P [] e
def bCons (a : BX) (r : BA) : BA := fun e P => a e fun s e1 => r e1 fun ss e2 => P (s :: ss) e2
theorem sa_nil : SA K tNil bNil := fun F0 B F H T τ env σ Q P r h w => w [] [] F H env h rfl (by simpa using r)
theorem sa_cons {ta : TE} {tr : TA} {a : BX} {b : BA} (ha : SE K ta a) (hb : SA K tr b) : SA K (tCons ta tr) (bCons a b) := fun F0 B F H T τ env σ Q P r h w =>
  ha F0 B F H T τ env σ _ _ r h fun s v F1 H1 e1 h1 q1 => hb F0 B F1 H1 (T ++ [s]) (τ ++ [v]) e1 σ _ _ q1 h1 fun ss vs F2 H2 e2 h2 hl q2 => w (s :: ss) (v :: vs) F2 H2 e2 h2 (by simp [hl]) (by simpa [List.append_assoc] using q2)
theorem ba_nil : BAs X [] bNil := ba_of pa_nil sa_nil
theorem ba_cons {x : Expr} {es : List Expr} {a : BX} {b : BA} (ha : BE X x a) (hb : BAs X es b) (hs : starEach (x :: es) X.env = (false, eval x X.env) :: starEach es X.env := by rfl) : BAs X (x :: es) (bCons a b) := ba_of (pa_cons ha hb hs) (sa_cons (se_B a) (sa_B b))
/-- items that are known -/
def datas : List Sl → Option (List PyData)
  | [] => some []
  | .fz d :: r => (datas r).map (d :: ·)
  | _ :: _ => none
theorem R.datas {F0 B F H : Hp} {env : BEnv} {σ : L2.St} : ∀ {S : List Sl} {vs : List V} {T : List Sl} {τ : List V} {ds : List PyData}, S.length = vs.length → R K F0 B F H (T ++ S) (τ ++ vs) env σ → datas S = some ds → RepA K F vs ds
  | [], [], _, _, _, _, _, h => by
    cases h
    exact .nil
  | [], _ :: _, _, _, _, hl, _, _ => by simp at hl
  | _ :: _, [], _, _, _, hl, _, _ => by simp at hl
  | s :: S, v :: vs, T, τ, ds, hl, r, h => by
    have hl' : S.length = vs.length := by simpa using hl
    have r' : R K F0 B F H (T ++ [s] ++ S) (τ ++ [v] ++ vs) env σ := by simpa [List.append_assoc] using r
    cases s with
    | fz d =>
      unfold BV.datas at h
      cases e : BV.datas S with
      | none =>
        rw [e] at h
        cases h
      | some ds' =>
        rw [e] at h
        cases h
        exact .cons (R.top_fz (r'.popn hl')) (R.datas hl' r' e)
    | _ => cases h
def asDatas (ss : List Sl) (k : List PyData → Prop) : Prop := match datas ss with | some ds => k ds | none => False
theorem asDatas_of {ss : List Sl} {k : List PyData → Prop} (h : asDatas ss k) : ∃ ds, datas ss = some ds ∧ k ds := by
  unfold asDatas at h
  split at h
  · exact ⟨_, by assumption, h⟩
  · exact h.elim
def bTup (a : BA) : BX := fun e P => a e fun ss e1 => ss.length ≤ sizeLine ∧ asDatas ss fun ds => P (.fz (.tuple ds)) e1
def bLst (a : BA) : BX := fun e P => a e fun ss e1 => ss.length ≤ sizeLine ∧ asDatas ss fun ds => P (.ow (.lst ds)) e1
theorem R.newT {F0 B F H : Hp} {T : List Sl} {τ : List V} {env : BEnv} {σ : L2.St} {p : Addr} {vs : List V} {ds : List PyData} (r : R K F0 B F H T τ env σ) (h : H p = none) (hd : RepA K F vs ds) : R K F0 B (upd F p (.tup vs)) (upd H p (.tup vs)) (T ++ [.fz (.tuple ds)]) (τ ++ [.ref p]) env σ :=
  r.newF h (.tup vs) (.tup (.of upd_same) (hd.mono (Sub.new (by
    obtain ⟨c, q⟩ := r
    exact (q.fresh h).1))))
theorem be_tup {es : List Expr} {k : Nat} {pos : Pos} {a : BA} (h : BAs X es a) : BE X (.Tuple es k pos) (bTup a) := be_of (pe_tup h) fun F0 B F H T τ env σ Q P r p w =>
  sa_B a F0 B F H T τ env σ _ _ r p fun ss vs F1 H1 e1 h1 hl q1 => by
    obtain ⟨hz, h1⟩ := h1
    obtain ⟨ds, hd, h2⟩ := asDatas_of h1
    exact ⟨hl ▸ hz, fun p hp => w _ _ _ _ _ h2 (R.newT (q1.popn hl) hp (R.datas hl q1 hd))⟩
theorem be_lst {es : List Expr} {pos : Pos} {a : BA} (h : BAs X es a) : BE X (.List es pos) (bLst a) := be_of (pe_lst h) fun F0 B F H T τ env σ Q P r p w =>
  sa_B a F0 B F H T τ env σ _ _ r p fun ss vs F1 H1 e1 h1 hl q1 => by
    obtain ⟨hz, h1⟩ := h1
    obtain ⟨ds, hd, h2⟩ := asDatas_of h1
    exact ⟨hl ▸ hz, fun p hp => w _ _ _ _ _ h2 (R.newL (q1.popn hl) hp (R.datas hl q1 hd))⟩
/-- what is made on the way is known for good -/
def bFz (a : BX) : BX := fun e P => a e fun s e1 => match s with
  | .ow o => match o.dat with
    | some d => P (.fz d) e1
    | none => False
  | .al i => match e1[i]? with
    | some (.ow o) => match o.dat with
      | some d => P (.fz d) (e1.set i (.fz d))
      | none => False
    | _ => False
  | s => P s e1
theorem be_fz {x : Expr} {a : BX} (h : BE X x a) : BE X x (bFz a) := be_of h fun F0 B F H T τ env σ Q P r p w => se_B a F0 B F H T τ env σ _ _ r p fun s v F1 H1 e1 h1 q1 => by
  cases s with
  | ow o =>
    have h2 : (match o.dat with | some d => P (.fz d) e1 | none => False) := h1
    split at h2
    · rename_i d e
      obtain ⟨G, _, q2⟩ := q1.freezeT e
      exact w _ _ _ _ _ h2 q2
    · exact h2.elim
  | al i =>
    have h2 : (match e1[i]? with | some (.ow o) => (match o.dat with | some d => P (.fz d) (e1.set i (.fz d)) | none => False) | _ => False) := h1
    split at h2
    · rename_i o e
      split at h2
      · rename_i d e'
        obtain ⟨G, sG, q2⟩ := q1.freeze e e'
        have z := q2.slot_fz (i := i) (d := d) (List.getElem?_set_self (List.getElem?_eq_some_iff.mp e).1)
        obtain ⟨v', e1', rp⟩ := z
        have e2 := q2.top_al
        rw [e1'] at e2
        cases e2
        exact w _ _ _ _ _ h2 (q2.pop.push_fz rp)
      · exact h2.elim
    · exact h2.elim
  | un => exact w _ _ _ _ _ h1 q1
  | fz d => exact w _ _ _ _ _ h1 q1
  | cst c => exact w _ _ _ _ _ h1 q1
end
end BV

set_option maxHeartbeats 4000000
/-! BV, part d: calls, defs, statements, loops. -/
namespace BV
open PySem L2

section
variable {K : Fg} {F0 B F G H H' : Hp} {T S : List Sl} {τ ν vs : List V} {env : List Sl} {σ : L2.St} {c : Col} {v w : V} {d : PyData} {s : Sl} {o : Ow} {i j : Nat}

theorem get_mid {α : Type} {l m : List α} {a x : α} {i : Nat} (h : (l ++ a :: m)[i]? = some x) : (i ≠ l.length ∧ ∀ b, (l ++ b :: m)[i]? = some x) ∨ (i = l.length ∧ a = x) := by
  by_cases hi : i < l.length
  · rw [List.getElem?_append_left hi] at h
    exact .inl ⟨by omega, fun b => by rw [List.getElem?_append_left hi]; exact h⟩
  · by_cases he : i = l.length
    · subst he
      rw [List.getElem?_append_right (Nat.le_refl _)] at h
      simp at h
      exact .inr ⟨rfl, h⟩
    · rw [List.getElem?_append_right (by omega)] at h
      refine .inl ⟨he, fun b => ?_⟩
      rw [List.getElem?_append_right (by omega)]
      obtain ⟨k, hk⟩ : ∃ k, i - l.length = k + 1 := ⟨i - l.length - 1, by omega⟩
      rw [hk] at h ⊢
      simpa using h
theorem mid_at {α : Type} {l m : List α} {a : α} : (l ++ a :: m)[l.length]? = some a := by
  rw [List.getElem?_append_right (Nat.le_refl _)]
  simp
theorem R.lenT (r : R K F0 B F H (T ++ s :: S) (τ ++ v :: ν) env σ) (hl : S.length = ν.length) : T.length = τ.length := by
  have := r.len
  simp at this
  omega
/-- what a name owns goes to a temporary that speaks of it -/
theorem R.take (r : R K F0 B F H (T ++ .al i :: S) (τ ++ v :: ν) env σ) (hl : S.length = ν.length) (h : env[i]? = some (.ow o)) : R K F0 B F H (T ++ .ow o :: S) (τ ++ v :: ν) (env.set i .un) σ ∧ σ[i]? = some (some v) := by
  have hT := r.lenT hl
  obtain ⟨c, q⟩ := r
  have hv : σ[i]? = some (some v) := q.tmp T.length (.al i) v mid_at (by rw [hT]; exact mid_at)
  refine ⟨?_, hv⟩
  obtain ⟨a, e, w⟩ := q.slt i _ h
  rw [hv] at e
  cases e
  let c' : Col := fun x => if c x = some (.inr i) then some (.inl T.length) else c x
  have c2 : ∀ x k, k ≠ .inr i → c x = some k → c' x = some k := fun x k hk hx => by
    show (if c x = some (.inr i) then _ else _) = _
    rw [if_neg (by rw [hx]; intro z; injection z with z; exact hk z)]
    exact hx
  have c3 : ∀ x, c' x ≠ none → c x ≠ none := fun x hx e => by
    apply hx
    show (if c x = some (.inr i) then _ else _) = _
    rw [e, if_neg (fun z => nomatch z)]
  refine ⟨c', ⟨q.f0, q.fh, q.bh, q.nw, by simpa using q.len, by simp [q.le], fun x hx => q.col x (c3 x hx), fun j s' v' h1 h2 => ?_, fun k s' h1 => ?_⟩⟩
  · rcases get_mid h1 with ⟨_, z⟩ | ⟨rfl, rfl⟩
    · exact (q.tmp j s' v' (z _) h2).mono (Sub.refl _) (fun _ _ => rfl) fun x hx => c2 x _ (fun z => nomatch z) hx
    · rw [hT, mid_at] at h2
      cases h2
      exact ⟨a, rfl, w.mono (Sub.refl _) (fun _ _ => rfl) fun b hb => if_pos hb⟩
  · by_cases hk : k = i
    · subst hk
      rw [List.getElem?_set_self (List.getElem?_eq_some_iff.mp h).1] at h1
      cases h1
      trivial
    · rw [List.getElem?_set_ne (Ne.symm hk)] at h1
      exact (q.slt k s' h1).mono (Sub.refl _) (fun _ _ => rfl) fun x hx => c2 x _ (fun z => hk (by injection z)) hx
/-- .. and back -/
theorem R.give (r : R K F0 B F H (T ++ .ow o :: S) (τ ++ v :: ν) env σ) (hl : S.length = ν.length) (h : env[i]? = some .un) (hv : σ[i]? = some (some v)) : R K F0 B F H (T ++ .un :: S) (τ ++ v :: ν) (env.set i (.ow o)) σ := by
  have hT := r.lenT hl
  obtain ⟨c, q⟩ := r
  obtain ⟨a, e, w⟩ := q.tmp T.length (.ow o) v mid_at (by rw [hT]; exact mid_at)
  let c' : Col := fun x => if c x = some (.inl T.length) then some (.inr i) else c x
  have c2 : ∀ x k, k ≠ .inl T.length → c x = some k → c' x = some k := fun x k hk hx => by
    show (if c x = some (.inl T.length) then _ else _) = _
    rw [if_neg (by rw [hx]; intro z; injection z with z; exact hk z)]
    exact hx
  have c3 : ∀ x, c' x ≠ none → c x ≠ none := fun x hx e => by
    apply hx
    show (if c x = some (.inl T.length) then _ else _) = _
    rw [e, if_neg (fun z => nomatch z)]
  refine ⟨c', ⟨q.f0, q.fh, q.bh, q.nw, by simpa using q.len, by simp [q.le], fun x hx => q.col x (c3 x hx), fun j s' v' h1 h2 => ?_, fun k s' h1 => ?_⟩⟩
  · rcases get_mid h1 with ⟨hj, z⟩ | ⟨rfl, rfl⟩
    · exact (q.tmp j s' v' (z _) h2).mono (Sub.refl _) (fun _ _ => rfl) fun x hx => c2 x _ (fun z => hj (by injection z)) hx
    · trivial
  · by_cases hk : k = i
    · subst hk
      rw [List.getElem?_set_self (List.getElem?_eq_some_iff.mp h).1] at h1
      cases h1
      exact ⟨a, by rw [hv, e], w.mono (Sub.refl _) (fun _ _ => rfl) fun b hb => if_pos hb⟩
    · rw [List.getElem?_set_ne (Ne.symm hk)] at h1
      exact (q.slt k s' h1).mono (Sub.refl _) (fun _ _ => rfl) fun x hx => c2 x _ (fun z => nomatch z) hx

/-- no alias among them -/
def Plain (T : List Sl) : Prop := ∀ (j i : Nat), T[j]? ≠ some (Sl.al i)
theorem tmp_any {σ' : L2.St} (hs : ∀ i, s ≠ .al i) (h : TmpOk K F H σ c j v s) : TmpOk K F H σ' c j v s := by
  cases s with
  | al k => exact absurd rfl (hs k)
  | _ => exact h
theorem tmp_col {k : Nat} {c' : Col} (hc : ∀ b, c b = some (.inl j) → c' b = some (.inl k)) : ∀ {s : Sl}, TmpOk K F H σ c j v s → TmpOk K F H σ c' k v s
  | .un, h => h
  | .fz d, h => h
  | .ow o, ⟨a, e, h⟩ => ⟨a, e, h.mono (Sub.refl _) (fun _ _ => rfl) hc⟩
  | .al i, h => h
  | .cst w, h => h
/-- a call: the arguments S at vs are handed over; what comes back -/
theorem R.call (r : R K F0 B F H (T ++ S) (τ ++ vs) env σ) (hl : S.length = vs.length) (hp : Plain S) :
    ∃ B', R K F B' F H S vs [] [] ∧ ∀ F' H' outs s v, outs.length = S.length → Plain (outs ++ [s]) → R K F B' F' H' (outs ++ [s]) (vs ++ [v]) [] [] → R K F0 B F' H' (T ++ outs ++ [s]) (τ ++ vs ++ [v]) env σ := by
  have hT : T.length = τ.length := by
    have := r.len
    simp at this
    omega
  obtain ⟨c, q⟩ := r
  let kept : Addr → Bool := fun a => match c a with
    | some (.inl j) => decide (j < T.length)
    | some (.inr _) => true
    | none => false
  let argc : Addr → Bool := fun a => (c a).isSome && !kept a
  have argc_ne : ∀ a, argc a = true → c a ≠ none := fun a h e => by
    have h' : ((c a).isSome && !kept a) = true := h
    rw [e] at h'
    cases h'
  have kept_ne : ∀ a, kept a = true → c a ≠ none := fun a h e => by
    have h' : (match c a with | some (.inl j) => decide (j < T.length) | some (.inr _) => true | none => false) = true := h
    rw [e] at h'
    cases h'
  have kept_not : ∀ a, kept a = true → argc a = false := fun a h => by
    show ((c a).isSome && !kept a) = false
    rw [h]
    simp
  let B' : Hp := fun a => if argc a = true then none else H a
  let c1 : Col := fun a => match c a with
    | some (.inl j) => if T.length ≤ j then some (.inl (j - T.length)) else none
    | _ => none
  have c1_ne : ∀ a, c1 a ≠ none → argc a = true := fun a h => by
    have h' : (match c a with | some (.inl j) => if T.length ≤ j then some (Sum.inl (j - T.length)) else none | _ => (none : Option (Nat ⊕ Nat))) ≠ none := h
    show ((c a).isSome && !(match c a with | some (.inl j) => decide (j < T.length) | some (.inr _) => true | none => false)) = true
    cases e : c a with
    | none =>
      rw [e] at h'
      exact absurd rfl h'
    | some x =>
      cases x with
      | inr k =>
        rw [e] at h'
        exact absurd rfl h'
      | inl k =>
        rw [e] at h'
        by_cases hk : T.length ≤ k
        · simp
          omega
        · simp [hk] at h'
  have c1_at : ∀ a j, c a = some (.inl (T.length + j)) → c1 a = some (.inl j) := fun a j e => by
    show (match c a with | some (.inl j) => if T.length ≤ j then some (Sum.inl (j - T.length)) else none | _ => (none : Option (Nat ⊕ Nat))) = _
    rw [e]
    simp
  refine ⟨B', ⟨c1, ⟨Sub.refl F, q.fh, fun a u e => ?_, fun a h => .inl h, hl, rfl, fun b hb => ?_, fun j s v h1 h2 => ?_, fun i s h => by simp at h⟩⟩, fun F' H' outs s v hlo hpo r' => ?_⟩
  · have e' : (if argc a = true then none else H a) = some u := e
    by_cases h : argc a = true
    · rw [if_pos h] at e'
      cases e'
    · rw [if_neg h] at e'
      exact e'
  · have h := c1_ne b hb
    obtain ⟨e1, _, e3⟩ := q.col b (argc_ne b h)
    exact ⟨e1, if_pos h, e3⟩
  · have hs : ∀ i, s ≠ .al i := fun i e => hp j i (e ▸ h1)
    have w := q.tmp (T.length + j) s v (by rw [List.getElem?_append_right (by omega)]; simpa using h1) (by rw [List.getElem?_append_right (by omega)]; rw [hT]; simpa using h2)
    exact tmp_col (fun b hb => c1_at b j hb) (tmp_any hs w)
  · obtain ⟨c2, q2⟩ := r'
    -- the colours behind the call
    let up : Addr → Option (Nat ⊕ Nat) := fun a => match c2 a with
      | some (.inl j) => some (.inl (T.length + j))
      | _ => none
    have up_ne : ∀ a, up a ≠ none → c2 a ≠ none := fun a h e => h (by
      show (match c2 a with | some (.inl j) => some (Sum.inl (T.length + j)) | _ => (none : Option (Nat ⊕ Nat))) = none
      rw [e])
    let d : Col := fun a => if kept a = true then c a else up a
    have d_kept : ∀ a, kept a = true → d a = c a := fun a h => if_pos h
    have B_of : ∀ a, kept a = true → B' a = H a := fun a h => by
      show (if argc a = true then none else H a) = H a
      rw [kept_not a h]
      rfl
    have H_of : ∀ a, kept a = true → H' a = H a := fun a h => by
      obtain ⟨_, _, e3⟩ := q.col a (kept_ne a h)
      cases e : H a with
      | none => exact absurd e e3
      | some u => exact q2.bh a u ((B_of a h).trans e)
    have c2_not : ∀ a, c2 a ≠ none → kept a = false := fun a h => by
      obtain ⟨_, e2, _⟩ := q2.col a h
      cases e : kept a with
      | false => rfl
      | true =>
        rw [B_of a e] at e2
        exact absurd e2 (q.col a (kept_ne a e)).2.2
    have B_none : ∀ a, B' a = none → B a = none := fun a h => by
      have h' : (if argc a = true then none else H a) = none := h
      by_cases e : argc a = true
      · exact (q.col a (argc_ne a e)).2.1
      · rw [if_neg e] at h'
        cases z : B a with
        | none => rfl
        | some u =>
          rw [q.bh a u z] at h'
          cases h'
    have lT : ∀ x, c x ≠ none → kept x = false → argc x = true := fun x h e => by
      show ((c x).isSome && !kept x) = true
      rw [e]
      cases z : c x with
      | none => exact absurd z h
      | some _ => rfl
    refine ⟨d, ⟨q.f0.trans q2.f0, q2.fh, fun a u e => ?_, fun a h => ?_, by simp [hT, hlo, hl], q.le, fun b hb => ?_, fun j s' v' h1 h2 => ?_, fun i s' h1 => ?_⟩⟩
    · have ca : c a = none := by
        cases z : c a with
        | none => rfl
        | some y =>
          rw [(q.col a (by rw [z]; exact fun z => nomatch z)).2.1] at e
          cases e
      have na : argc a = false := by
        show ((c a).isSome && !kept a) = false
        rw [ca]
        rfl
      refine q2.bh a u ?_
      show (if argc a = true then none else H a) = some u
      rw [na]
      exact q.bh a u e
    · rcases q2.nw a h with h1 | h1
      · exact q.nw a h1
      · exact .inr (B_none a h1)
    · have hb' : (if kept b = true then c b else up b) ≠ none := hb
      by_cases e : kept b = true
      · obtain ⟨e1, e2, e3⟩ := q.col b (kept_ne b e)
        refine ⟨?_, e2, by rw [H_of b e]; exact e3⟩
        cases z : F' b with
        | none => rfl
        | some u =>
          rcases q2.nw b (by rw [z]; exact fun z => nomatch z) with h1 | h1
          · exact absurd e1 h1
          · rw [B_of b e] at h1
            exact absurd h1 e3
      · rw [if_neg e] at hb'
        obtain ⟨e1, e2, e3⟩ := q2.col b (up_ne b hb')
        exact ⟨e1, B_none b e2, e3⟩
    · by_cases hj : j < T.length
      · have g1 : T[j]? = some s' := by
          rw [List.append_assoc, List.getElem?_append_left hj] at h1
          exact h1
        have g2 : τ[j]? = some v' := by
          rw [List.append_assoc, List.getElem?_append_left (by omega)] at h2
          exact h2
        have w := q.tmp j s' v' (by rw [List.getElem?_append_left hj]; exact g1) (by rw [List.getElem?_append_left (by omega)]; exact g2)
        have kx : ∀ x, c x = some (.inl j) → kept x = true := fun x hx => by
          show (match c x with | some (.inl j) => decide (j < T.length) | some (.inr _) => true | none => false) = true
          rw [hx]
          simpa using hj
        exact w.mono q2.f0 (fun x hx => H_of x (kx x hx)) fun x hx => (d_kept x (kx x hx)).trans hx
      · have g1 : (outs ++ [s])[j - T.length]? = some s' := by
          rw [List.append_assoc, List.getElem?_append_right (by omega)] at h1
          exact h1
        have g2 : (vs ++ [v])[j - T.length]? = some v' := by
          rw [List.append_assoc, List.getElem?_append_right (by omega), ← hT] at h2
          exact h2
        have w := q2.tmp _ s' v' g1 g2
        have hs : ∀ i, s' ≠ .al i := fun i e => hpo _ i (e ▸ g1)
        refine tmp_col (fun b hb => ?_) (tmp_any hs w)
        show (if kept b = true then c b else up b) = _
        rw [c2_not b (by rw [hb]; exact fun z => nomatch z)]
        show (match c2 b with | some (.inl j) => some (Sum.inl (T.length + j)) | _ => (none : Option (Nat ⊕ Nat))) = _
        rw [hb]
        show some (Sum.inl (T.length + (j - T.length))) = _
        rw [Nat.add_sub_cancel' (by omega)]
    · have w := q.slt i s' h1
      have kx : ∀ x, c x = some (.inr i) → kept x = true := fun x hx => by
        show (match c x with | some (.inl j) => decide (j < T.length) | some (.inr _) => true | none => false) = true
        rw [hx]
      exact w.mono q2.f0 (fun x hx => H_of x (kx x hx)) fun x hx => (d_kept x (kx x hx)).trans hx
end

/-! ### what a def promises -/
abbrev Ph := List Sl → (Sl → List Sl → Prop) → Prop
def spB (K : Fg) (n : Nat) (ph : Ph) : Sp := fun vs H Q _ => ∃ F B args P, args.length = n ∧ args.length = vs.length ∧ Plain args ∧ R K F B F H args vs [] [] ∧ ph args P ∧
  ∀ s v outs F' H', P s outs → outs.length = n → Plain (outs ++ [s]) → R K F B F' H' (outs ++ [s]) (vs ++ [v]) [] [] → Q v H'

/-- as FnOk, called where no object is being shown -/
structure FnG (P : Program) (w : World) (K : Fg) (mg : Str → Option Value) (base : Heap) (CX : CXT) (k : Nat) (f : Addr) (fd : FuncData) (ps : List Str) (sp : Sp) : Prop where
  lenG : ∀ us G Q E, sp us G Q E → us.length = ps.length
  runG : ∀ (A : Around) (outer : List Env) (s : Shared) (G : Hp) (ar : Args) (us : List Value) (xs : List V) (Q : VK) (E : XK), A.guards = some [] → Room k A → Env0 P w K mg base A outer s G → BindsTo s fd ar (ps.zip us) → Vals xs us → sp xs G Q E →
    codeAny (model P w) A (.call (.ref f) ar) (CR CX outer P w G s Q E) s
theorem FnG.up {P : Program} {w : World} {K : Fg} {mg : Str → Option Value} {base : Heap} {CX : CXT} {j k : Nat} {f : Addr} {fd : FuncData} {ps : List Str} {sp : Sp} (x : FnG P w K mg base CX j f fd ps sp) (h : j ≤ k) : FnG P w K mg base CX k f fd ps sp :=
  ⟨x.lenG, fun A outer s G ar us xs Q E g hr => x.runG A outer s G ar us xs Q E g (hr.mono h)⟩

section
variable {X : Cx} {CX : CXT} {k : Nat} {f : Addr} {fd : FuncData} {ps : List Str} {sp : Sp} {dvs : List V} {ds : List Value} {E : XK} {x : Str} {p pos : Pos} {e : Expr} {es : List Expr} {t : TA}
theorem goG {pins : List (Addr × Obj)} {σ : L2.St} {G : Hp} {s : Shared} {Q : VK} {ar : Args} {us : List Value} {xs : List V} (F : FnG X.prog X.w X.K X.mg X.base CX k f fd ps sp) (hg : X.A.guards = some []) (hr : Room k X.A) (hx : Passes CX X E)
    (I : Inv X pins σ G s) (hb : BindsTo s fd ar (ps.zip us)) (rel : Vals xs us) (h : sp xs G Q E) : codeAny (model X.prog X.w) X.A (.call (.ref f) ar) (fun res s' => match res with
      | .ok (.ret u) => EP X pins σ Q u s'
      | .ok _ => False
      | .error ex => X.xe ex s') s := by
  refine codeAny_mono (F.runG X.A X.stack s G ar us xs Q E hg hr I.env0 hb rel h) fun res s' hq => ?_
  match res, hq with
  | .ok (.ret u), hq => exact I.after hq
  | .ok .next, hq => exact hq.elim
  | .ok .brk, hq => exact hq.elim
  | .ok .cont, hq => exact hq.elim
  | .error ex, hq => exact hx pins σ G s ex s' I hq
theorem goW {pins : List (Addr × Obj)} {σ : L2.St} {G : Hp} {s : Shared} {Q : VK} {us0 : List Value} {kw : List (Str × Value)} {us : List Value} {xs : List V} (F : FnG X.prog X.w X.K X.mg X.base CX k f fd ps sp) (hg : X.A.guards = some []) (hr : Room k X.A) (hx : Passes CX X E)
    (I : Inv X pins σ G s) (hb : BindsTo s fd ⟨us0, kw⟩ (ps.zip us)) (rel : Vals xs us) (h : sp xs G Q E) : wpAny (model X.prog X.w) X.A (call (.ref f) us0 kw) (EP X pins σ Q) X.xe s := by
  refine wpAny_call (codeAny_mono (goG F hg hr hx I hb rel h) fun res s' hq => ?_)
  match res, hq with
  | .ok (.ret u), hq => exact hq
  | .ok .next, hq => exact hq.elim
  | .ok .brk, hq => exact hq.elim
  | .ok .cont, hq => exact hq.elim
  | .error ex, hq => exact hq
theorem pg_callK0 {kws : List Keyword} {tk : TA} {ks : List Str} {g : List Value → List Value → List Value} {gV : List V → List V → List V} (F : FnG X.prog X.w X.K X.mg X.base CX k f fd ps sp) (hgd : X.A.guards = some []) (hr : Room k X.A) (hx : Passes CX X E) (hg : Gl X x) (hm : X.mg x = some (.ref f)) (kp : PySem.W.keepIn X.K (.ref f) = true) (hb : KBinds X.K fd ps ks g gV) (hkw : PK X kws tk)
    (hall : (backToKw pos (keywordEach kws X.env)).all (·.1.isSome) = true := by rfl) (hks : (backToKw pos (keywordEach kws X.env)).filterMap (·.1) = ks := by rfl) (hdb : (x == ("__debug__" : Str)) = false := by decide)
    (hpl : ((backTo pos (starEach [] X.env)).any (·.1) || (backToKw pos (keywordEach kws X.env)).any (·.1.isNone)) = false := by rfl) : PE X (.Call (.Name x p) [] kws pos) (fun σ H Q => tk σ H fun zs H2 => sp (gV [] zs) H2 Q E) :=
  ⟨fun pins s σ G Q I h => wpAny_Call_Name_kw (ld_glob I hg hm (PySem.W.callWith_KW0 (h₀ := X.base) I.ok.mod.kin kp hall (thn (hkw.run pos pins s σ G _ I h) fun ws s2 ⟨zs, G2, I2, rz, q2⟩ => ⟨I2.kIn, by
      rw [hks]
      have r2 := hb.rel (vs := []) (us := []) .nil rz
      have hl : (g [] ws).length = ps.length := by
        rw [← r2.length]
        exact F.lenG _ _ _ _ q2
      exact goW F hgd hr hx I2 (hb.to s2 [] ws I2.kIn hl) r2 q2⟩) hpl) hdb)⟩
/-- f(e, ..) -/
theorem pg_call (F : FnG X.prog X.w X.K X.mg X.base CX k f fd ps sp) (hgd : X.A.guards = some []) (hr : Room k X.A) (hx : Passes CX X E) (hg : Gl X x) (hm : X.mg x = some (.ref f)) (kp : PySem.W.keepIn X.K (.ref f) = true) (hb : Binds X.K fd ps []) (ha : PA X (e :: es) t)
    (hdb : (x == ("__debug__" : Str)) = false := by decide) (he : starEach (e :: es) X.env = (false, eval e X.env) :: starEach es X.env := by rfl) (hpl : (backTo pos (starEach es X.env)).any (·.1) = false := by rfl) : PE X (.Call (.Name x p) (e :: es) [] pos) (tCall sp [] E t) :=
  ⟨fun pins s σ G Q I h => wpAny_Call_Name_kw (ld_glob I hg hm (PySem.W.callWith_K (h₀ := X.base) I.ok.mod.kin kp (thn (ha.run pos pins s σ G _ I h) fun us s1 ⟨xs, G1, I1, rel, q⟩ => ⟨I1.kIn, by
    have q' : sp (xs ++ []) G1 Q E := q
    rw [List.append_nil] at q'
    have hl : (us ++ []).length = ps.length := by
      rw [List.append_nil, ← rel.length]
      exact F.lenG _ _ _ _ q'
    have b2 := hb s1 us I1.kIn hl
    rw [List.append_nil] at b2
    exact goW F hgd hr hx I1 b2 rel q'⟩) he hpl) hdb)⟩
theorem pg_call0 (F : FnG X.prog X.w X.K X.mg X.base CX k f fd ps sp) (hgd : X.A.guards = some []) (hr : Room k X.A) (hx : Passes CX X E) (hg : Gl X x) (hm : X.mg x = some (.ref f)) (kp : PySem.W.keepIn X.K (.ref f) = true) (hb : Binds X.K fd ps [])
    (hdb : (x == ("__debug__" : Str)) = false := by decide) : PE X (.Call (.Name x p) [] [] pos) (tCall sp [] E tNil) :=
  ⟨fun pins s σ G Q I h => wpAny_Call_Name_kw (ld_glob I hg hm (PySem.W.callWith_K0 I.kIn kp (by
    have h' : sp [] G Q E := h
    have hl : ([] ++ [] : List Value).length = ps.length := by
      have := F.lenG _ _ _ _ h'
      simpa using this
    have b2 := hb s [] I.kIn hl
    exact goW F hgd hr hx I b2 .nil h')) hdb)⟩
variable {kws : List Keyword} {tk : TA} {ks : List Str} {g : List Value → List Value → List Value} {gV : List V → List V → List V}
theorem pg_callK (F : FnG X.prog X.w X.K X.mg X.base CX k f fd ps sp) (hgd : X.A.guards = some []) (hr : Room k X.A) (hx : Passes CX X E) (hg : Gl X x) (hm : X.mg x = some (.ref f)) (kp : PySem.W.keepIn X.K (.ref f) = true) (hb : KBinds X.K fd ps ks g gV) (ha : PA X (e :: es) t) (hkw : PK X kws tk)
    (hall : (backToKw pos (keywordEach kws X.env)).all (·.1.isSome) = true := by rfl) (hks : (backToKw pos (keywordEach kws X.env)).filterMap (·.1) = ks := by rfl) (hdb : (x == ("__debug__" : Str)) = false := by decide)
    (he : starEach (e :: es) X.env = (false, eval e X.env) :: starEach es X.env := by rfl) (hpl : ((backTo pos (starEach (e :: es) X.env)).any (·.1) || (backToKw pos (keywordEach kws X.env)).any (·.1.isNone)) = false := by rfl) : PE X (.Call (.Name x p) (e :: es) kws pos) (tCallK sp gV E t tk) :=
  ⟨fun pins s σ G Q I h => wpAny_Call_Name_kw (ld_glob I hg hm (PySem.W.callWith_KW (h₀ := X.base) I.ok.mod.kin kp hall (thn (ha.run pos pins s σ G _ I h) fun us s1 ⟨xs, G1, I1, rel, q⟩ =>
    thn (hkw.run pos pins s1 σ G1 _ I1 q) fun ws s2 ⟨zs, G2, I2, rz, q2⟩ => ⟨I2.kIn, by
      rw [hks]
      have r2 := hb.rel rel rz
      have hl : (g us ws).length = ps.length := by
        rw [← r2.length]
        exact F.lenG _ _ _ _ q2
      exact goW F hgd hr hx I2 (hb.to s2 us ws I2.kIn hl) r2 q2⟩) hpl he) hdb)⟩
end
end BV

set_option maxHeartbeats 4000000
/-! BV, part e: calls by data, statements, loops, a def's rule. -/
namespace BV
open PySem L2

section
variable {K : Fg} {F0 B F G H H' : Hp} {T S : List Sl} {τ ν vs : List V} {env : List Sl} {σ : L2.St} {c : Col} {v w : V} {d : PyData} {s : Sl} {o : Ow} {i j : Nat}
theorem plain_cons (h : Plain S) (hs : ∀ i, s ≠ .al i) : Plain (s :: S) := fun j i e => by
  cases j with
  | zero =>
    simp at e
    exact hs i e
  | succ j => exact h j i (by simpa using e)
theorem plain_tail (h : Plain (s :: S)) : Plain S := fun j i e => h (j + 1) i (by simpa using e)
theorem plain_append (h : Plain T) (h' : Plain S) : Plain (T ++ S) := fun j i e => by
  by_cases hj : j < T.length
  · rw [List.getElem?_append_left hj] at e
    exact h j i e
  · rw [List.getElem?_append_right (by omega)] at e
    exact h' _ i e
theorem plain_left (h : Plain (T ++ S)) : Plain T := fun j i e => h j i (by rw [List.getElem?_append_left (List.getElem?_eq_some_iff.mp e).1]; exact e)
/-- a check that no alias is among them -/
def plainB : List Sl → Bool
  | [] => true
  | .al _ :: _ => false
  | _ :: r => plainB r
theorem plain_of : ∀ {S : List Sl}, plainB S = true → Plain S
  | [], _ => fun j i e => by simp at e
  | s :: S, h => by
    cases s with
    | al i => cases h
    | _ => exact plain_cons (plain_of (S := S) h) (by intro i e; cases e)
/-- a call none of whose arguments is changed -/
theorem S_call0 {n : Nat} {ph : Ph} {Q : VK} {P : Sl → BEnv → Prop} {E : XK} (r : R K F0 B F H (T ++ S) (τ ++ vs) env σ) (hl : S.length = vs.length) (hn : S.length = n) (hp : Plain S) (h : ph S fun s outs => P s env) (w : Wx K F0 B T τ σ P Q) : spB K n ph vs H Q E := by
  obtain ⟨B', r1, back⟩ := r.call hl hp
  exact ⟨F, B', S, _, hn, hl, hp, r1, h, fun s v outs F' H' p ho hpo r2 => w s v F' H' env p (R.drop (S := outs) (ν := vs) (back F' H' outs s v (by omega) hpo r2) (by omega))⟩
/-- a call that changes what its first argument names -/
theorem S_call1 {n : Nat} {ph : Ph} {Q : VK} {P : Sl → BEnv → Prop} {E : XK} (r : R K F0 B F H (T ++ .al i :: S) (τ ++ vs) env σ) (hl : S.length + 1 = vs.length) (hn : S.length + 1 = n) (hp : Plain S) (he : env[i]? = some (.ow o))
    (h : ph (.ow o :: S) fun s outs => ∃ o', outs.head? = some (.ow o') ∧ P s (env.set i (.ow o'))) (w : Wx K F0 B T τ σ P Q) : spB K n ph vs H Q E := by
  cases vs with
  | nil => simp at hl
  | cons v vs =>
    have hl' : S.length = vs.length := by simpa using hl
    obtain ⟨r0, hv⟩ := r.take hl' he
    have hp1 : Plain (.ow o :: S) := plain_cons hp (by intro i e; cases e)
    obtain ⟨B', r1, back⟩ := R.call (S := .ow o :: S) (vs := v :: vs) r0 (by simpa using hl') hp1
    refine ⟨F, B', .ow o :: S, _, by simpa using hn, by simpa using hl', hp1, r1, h, fun s u outs F' H' p ho hpo r2 => ?_⟩
    obtain ⟨o', e1, p⟩ := p
    cases outs with
    | nil => cases e1
    | cons s1 outs =>
      cases e1
      have hlo : outs.length = vs.length := by
        simp at ho hn
        omega
      have r3 := back F' H' (.ow o' :: outs) s u (by simp at ho ⊢; omega) hpo r2
      have r4 : R K F0 B F' H' (T ++ .ow o' :: (outs ++ [s])) (τ ++ v :: (vs ++ [u])) (env.set i .un) σ := by simpa [List.append_assoc] using r3
      have hi : i < env.length := (List.getElem?_eq_some_iff.mp he).1
      have r5 := r4.give (i := i) (by simp [hlo]) (List.getElem?_set_self hi) hv
      rw [List.set_set] at r5
      refine w s u F' H' _ p (R.drop (S := .un :: outs) (ν := v :: vs) ?_ (by simp [hlo]))
      simpa [List.append_assoc] using r5
end

/-! ### calls by data -/
section
variable {X : Cx} {K : Fg}
/-- a call: no argument is changed | the first one is -/
def callW (n : Nat) (ph : Ph) (P : Sl → BEnv → Prop) (e : BEnv) (ss : List Sl) : Prop := match ss with
  | .al i :: rest => rest.length + 1 = n ∧ plainB rest = true ∧ (match e[i]? with
    | some (.ow o) => ph (.ow o :: rest) fun s outs => ∃ o', outs.head? = some (.ow o') ∧ P s (e.set i (.ow o'))
    | _ => False)
  | ss => ss.length = n ∧ plainB ss = true ∧ ph ss fun s _ => P s e
def bCall (n : Nat) (ph : Ph) (a : BA) : BX := fun e P => a e fun ss e1 => callW n ph P e1 ss
theorem bCall_run {n : Nat} {ph : Ph} {F0 B F H : Hp} {T : List Sl} {τ vs : List V} {env : BEnv} {σ : L2.St} {ss : List Sl} {P : Sl → BEnv → Prop} {Q : VK} {E : XK} (r : R K F0 B F H (T ++ ss) (τ ++ vs) env σ) (hl : ss.length = vs.length)
    (h : callW n ph P env ss) (w : Wx K F0 B T τ σ P Q) : spB K n ph vs H Q E := by
  unfold callW at h
  split at h
  · obtain ⟨hn, hp, h⟩ := h
    split at h
    · rename_i o e
      exact S_call1 r (by simpa using hl) hn (plain_of hp) e h w
    · exact h.elim
  · obtain ⟨hn, hp, h⟩ := h
    exact S_call0 r hl hn (plain_of hp) h w
theorem se_call {n : Nat} {ph : Ph} {E : XK} {ta : TA} {b : BA} (ha : SA K ta b) : SE K (tCall (spB K n ph) [] E ta) (bCall n ph b) := fun F0 B F H T τ env σ Q P r h w =>
  ha F0 B F H T τ env σ _ _ r h fun ss vs F1 H1 e1 h1 hl q1 => by
    show spB K n ph (vs ++ []) H1 Q E
    rw [List.append_nil]
    exact bCall_run q1 hl h1 w
variable {k : Nat} {f : Addr} {fd : FuncData} {ps : List Str} {n : Nat} {ph : Ph} {x : Str} {p pos : Pos} {e : Expr} {es : List Expr}
theorem be_call {b : BA} (F : FnG X.prog X.w X.K X.mg X.base CX0 k f fd ps (spB X.K n ph)) (hgd : X.A.guards = some []) (hr : Room k X.A) (hg : Gl X x) (hm : X.mg x = some (.ref f)) (kp : PySem.W.keepIn X.K (.ref f) = true) (hb : Binds X.K fd ps []) (ha : BAs X (e :: es) b)
    (hdb : (x == ("__debug__" : Str)) = false := by decide) (he : starEach (e :: es) X.env = (false, eval e X.env) :: starEach es X.env := by rfl) (hpl : (backTo pos (starEach es X.env)).any (·.1) = false := by rfl) : BE X (.Call (.Name x p) (e :: es) [] pos) (bCall n ph b) :=
  be_of (pg_call F hgd hr pass0 hg hm kp hb ha hdb he hpl) (se_call (sa_B b))
theorem be_call0 (F : FnG X.prog X.w X.K X.mg X.base CX0 k f fd ps (spB X.K n ph)) (hgd : X.A.guards = some []) (hr : Room k X.A) (hg : Gl X x) (hm : X.mg x = some (.ref f)) (kp : PySem.W.keepIn X.K (.ref f) = true) (hb : Binds X.K fd ps [])
    (hdb : (x == ("__debug__" : Str)) = false := by decide) : BE X (.Call (.Name x p) [] [] pos) (bCall n ph bNil) := be_of (pg_call0 F hgd hr pass0 hg hm kp hb hdb) (se_call sa_nil)
/-- f(k = e, ..): known values, told by keywords; g puts them in order -/
theorem R.pushAll {F0 B F H : Hp} {env : BEnv} {σ : L2.St} : ∀ {vs : List V} {ds : List PyData} {T : List Sl} {τ : List V}, R K F0 B F H T τ env σ → RepA K F vs ds → R K F0 B F H (T ++ ds.map Sl.fz) (τ ++ vs) env σ
  | _, _, T, τ, r, .nil => by simpa using r
  | _, _, T, τ, r, .cons a b => by
    have r1 := R.pushAll (r.push_fz a) b
    simpa [List.append_assoc] using r1
def bCallK (n : Nat) (ph : Ph) (g : List PyData → List PyData) (a : BA) : BX := fun e P => a e fun ss e1 => asDatas ss fun ds => (g ds).length = n ∧ ph ((g ds).map Sl.fz) fun s _ => P s e1
structure BKs (X : Cx) (kws : List Keyword) (b : BA) : Prop where
  pk : PK X kws (taB X.K b)
theorem bk_nil : BKs X [] bNil := ⟨⟨fun pos pins s σ H Q I ⟨F0, B, F, T, τ, env, P, r, h, w⟩ => pk_nil.run pos pins s σ H Q I (sa_nil F0 B F H T τ env σ Q P r h w)⟩⟩
theorem bk_cons {nm : Option Str} {kpos : Pos} {kws : List Keyword} {a : BX} {b : BA} (ha : BE X e a) (hb : BKs X kws b) : BKs X (⟨nm, e, kpos⟩ :: kws) (bCons a b) :=
  ⟨⟨fun pos pins s σ H Q I ⟨F0, B, F, T, τ, env, P, r, h, w⟩ => (pk_cons ha hb.pk).run pos pins s σ H Q I (sa_cons (se_B a) (sa_B b) F0 B F H T τ env σ Q P r h w)⟩⟩
theorem be_callK0 {kws : List Keyword} {ks : List Str} {gW : List Value → List Value → List Value} {gV : List V → List V → List V} {g : List PyData → List PyData} {b : BA} (F : FnG X.prog X.w X.K X.mg X.base CX0 k f fd ps (spB X.K n ph)) (hgd : X.A.guards = some []) (hr : Room k X.A) (hg : Gl X x) (hm : X.mg x = some (.ref f)) (kp : PySem.W.keepIn X.K (.ref f) = true) (hb : KBinds X.K fd ps ks gW gV) (hkw : BKs X kws b)
    (hgg : ∀ F vs ds, RepA X.K F vs ds → RepA X.K F (gV [] vs) (g ds))
    (hall : (backToKw pos (keywordEach kws X.env)).all (·.1.isSome) = true := by rfl) (hks : (backToKw pos (keywordEach kws X.env)).filterMap (·.1) = ks := by rfl) (hdb : (x == ("__debug__" : Str)) = false := by decide)
    (hpl : ((backTo pos (starEach [] X.env)).any (·.1) || (backToKw pos (keywordEach kws X.env)).any (·.1.isNone)) = false := by rfl) : BE X (.Call (.Name x p) [] kws pos) (bCallK n ph g b) :=
  be_of (pg_callK0 F hgd hr (E := E0) pass0 hg hm kp hb hkw.pk hall hks hdb hpl) fun F0 B F H T τ env σ Q P r h w => sa_B b F0 B F H T τ env σ _ _ r h fun ss vs F1 H1 e1 h1 hl q1 => by
    obtain ⟨ds, hd, hn, h2⟩ := asDatas_of h1
    have q2 := R.pushAll (q1.popn hl) (hgg _ _ _ (R.datas hl q1 hd))
    exact S_call0 q2 (by simpa using (hgg _ _ _ (R.datas hl q1 hd)).length.symm) (by simpa using hn) (fun j i z => by
      rw [List.getElem?_map] at z
      cases z' : (g ds)[j]? with
      | none => rw [z'] at z; cases z
      | some d => rw [z'] at z; cases z) h2 w
end

/-! ### statements -/
structure BEnds where
  nx : BEnv → Prop
  rt : Sl → BEnv → Prop
  bk : BEnv → Prop := fun _ => False
  ct : BEnv → Prop := fun _ => False
abbrev BS := BEnds → BEnv → Prop
/-- the pins: names that temporaries speak of -/
def PinOk (ps : List Nat) (T : List Sl) : Prop := ∀ (j i : Nat), T[j]? = some (Sl.al i) → i ∈ ps
theorem PinOk.snoc {ps : List Nat} {T : List Sl} {s : Sl} (h : PinOk ps T) (hs : ∀ i, s ≠ .al i) : PinOk ps (T ++ [s]) := fun j i e => by
  rcases get_snoc e with ⟨_, e⟩ | ⟨_, e⟩
  · exact h j i e
  · exact absurd e (hs i)
theorem PinOk.app {ps : List Nat} {T S : List Sl} (h : PinOk ps T) (hs : Plain S) : PinOk ps (T ++ S) := fun j i e => by
  by_cases hj : j < T.length
  · rw [List.getElem?_append_left hj] at e
    exact h j i e
  · rw [List.getElem?_append_right (by omega)] at e
    exact absurd e (hs _ _)
structure EndOk (K : Fg) (F0 B : Hp) (T : List Sl) (τ : List V) (E : BEnds) (D : Ends) : Prop where
  nx : ∀ F H env σ, E.nx env → R K F0 B F H T τ env σ → D.nx σ H
  rt : ∀ s v F H env σ, E.rt s env → R K F0 B F H (T ++ [s]) (τ ++ [v]) env σ → D.rt v H
  bk : ∀ F H env σ, E.bk env → R K F0 B F H T τ env σ → D.bk σ H
  ct : ∀ F H env σ, E.ct env → R K F0 B F H T τ env σ → D.ct σ H
def SS (K : Fg) (ps : List Nat) (ts : TS) (b : BS) : Prop := ∀ F0 B F H T τ env σ D E, PinOk ps T → R K F0 B F H T τ env σ → b E env → EndOk K F0 B T τ E D → ts D σ H
def tsB (K : Fg) (ps : List Nat) (b : BS) : TS := fun D σ H => ∃ F0 B F T τ env E, PinOk ps T ∧ R K F0 B F H T τ env σ ∧ b E env ∧ EndOk K F0 B T τ E D
theorem ss_B {K : Fg} {ps : List Nat} (b : BS) : SS K ps (tsB K ps b) b := fun F0 B F H T τ env σ D E hp r h w => ⟨F0, B, F, T, τ, env, E, hp, r, h, w⟩
def BSt (X : Cx) (ps : List Nat) (st : Stmt) (b : BS) : Prop := PS X st (tsB X.K ps b)
def BSs (X : Cx) (ps : List Nat) (st : List Stmt) (b : BS) : Prop := PSs X st (tsB X.K ps b)
theorem bs_of {X : Cx} {ps : List Nat} {st : Stmt} {t : TS} {b : BS} (h : PS X st t) (hs : SS X.K ps t b) : BSt X ps st b := ⟨fun pins s σ H D I ⟨F0, B, F, T, τ, env, E, hp, r, p, w⟩ => h.run pins s σ H D I (hs F0 B F H T τ env σ D E hp r p w)⟩
theorem bss_of {X : Cx} {ps : List Nat} {st : List Stmt} {t : TS} {b : BS} (h : PSs X st t) (hs : SS X.K ps t b) : BSs X ps st b := ⟨fun pins s σ H D I ⟨F0, B, F, T, τ, env, E, hp, r, p, w⟩ => h.run pins s σ H D I (hs F0 B F H T τ env σ D E hp r p w)⟩
/-- targets -/
abbrev BG := Sl → BEnv → (BEnv → Prop) → Prop
def SG (K : Fg) (ps : List Nat) (g : TG) (b : BG) : Prop := ∀ F0 B F H T τ env σ s v Q P, PinOk ps T → R K F0 B F H (T ++ [s]) (τ ++ [v]) env σ → b s env P → (∀ F' H' env' σ', P env' → R K F0 B F' H' T τ env' σ' → Q σ' H') → g v σ H Q
def tgB (K : Fg) (ps : List Nat) (b : BG) : TG := fun v σ H Q => ∃ F0 B F T τ env s P, PinOk ps T ∧ R K F0 B F H (T ++ [s]) (τ ++ [v]) env σ ∧ b s env P ∧ ∀ F' H' env' σ', P env' → R K F0 B F' H' T τ env' σ' → Q σ' H'
theorem sg_B {K : Fg} {ps : List Nat} (b : BG) : SG K ps (tgB K ps b) b := fun F0 B F H T τ env σ s v Q P hp r h w => ⟨F0, B, F, T, τ, env, s, P, hp, r, h, w⟩
def BGt (X : Cx) (ps : List Nat) (e : Expr) (b : BG) : Prop := PG X e (tgB X.K ps b)
theorem bg_of {X : Cx} {ps : List Nat} {e : Expr} {g : TG} {b : BG} (h : PG X e g) (hs : SG X.K ps g b) : BGt X ps e b := ⟨fun pins s σ H v u Q I rv ⟨F0, B, F, T, τ, env, sl, P, hp, r, p, w⟩ => h.run pins s σ H v u Q I rv (hs F0 B F H T τ env σ sl v Q P hp r p w)⟩

section
variable {X : Cx} {K : Fg} {ps : List Nat}
/-- a name is stored: what is known, or an object of its own -/
def gStore (i : Nat) : BG := fun s e P => match s with
  | .fz d => P (e.set i (.fz d))
  | .ow o => P (e.set i (.ow o))
  | _ => False
theorem sg_name {i : Nat} (hi : i ∉ ps) : SG K ps (gName i) (gStore i) := fun F0 B F H T τ env σ s v Q P hp r h w => by
  have hn : ∀ j : Nat, T[j]? ≠ some (Sl.al i) := fun j e => hi (hp j i e)
  cases s with
  | fz d => exact w _ _ _ _ h (r.assign hn (.inl ⟨d, rfl⟩))
  | ow o => exact w _ _ _ _ h (r.assign hn (.inr ⟨o, rfl⟩))
  | _ => exact h.elim
theorem bg_name (i : Nat) {x : Str} {pos : Pos} (hN : X.N.Nodup) (hx : X.N[i]? = some x := by rfl) (hl : Loc X.env.scope x := by first | exact Or.inl rfl | exact Or.inr rfl) (hf : X.fn x = true ∨ X.env.scope.names.lookup x = some .local := by first | exact .inl rfl | exact .inr rfl) (hi : i ∉ ps := by decide) : BGt X ps (.Name x pos) (gStore i) :=
  bg_of (pg_name hN hx hl hf) (sg_name hi)
/-- x = e -/
def bAsg (a : BX) (g : BG) : BS := fun E env => a env fun s e1 => g s e1 E.nx
theorem ss_asg {te : TE} {g : TG} {a : BX} {b : BG} (ha : SE K te a) (hb : SG K ps g b) : SS K ps (tAsg te g) (bAsg a b) := fun F0 B F H T τ env σ D E hp r h w =>
  ha F0 B F H T τ env σ _ _ r h fun s v F1 H1 e1 h1 q1 => hb F0 B F1 H1 T τ e1 σ s v _ _ hp q1 h1 fun F2 H2 e2 σ2 h2 q2 => w.nx F2 H2 e2 σ2 h2 q2
theorem bs_set (i : Nat) {x : Str} {e : Expr} {pos pos' : Pos} {a : BX} (hN : X.N.Nodup) (ha : BE X e a) (hx : X.N[i]? = some x := by rfl) (hl : Loc X.env.scope x := by first | exact Or.inl rfl | exact Or.inr rfl) (hs : swapsWith e (some (.Name x pos')) pos.line X.env = pure false := by rfl)
    (hf : X.fn x = true ∨ X.env.scope.names.lookup x = some .local := by first | exact .inl rfl | exact .inr rfl) (hi : i ∉ ps := by decide) : BSt X ps (.Assign [.Name x pos'] e pos) (bAsg a (gStore i)) := bs_of (ps_set hN hx hl ha hs hf) (ss_asg (se_B a) (sg_name hi))
theorem bs_asg {tg e : Expr} {pos : Pos} {a : BX} {b : BG} (ha : BE X e a) (hg : BGt X ps tg b) (hs : swapsWithSole [tg] e pos.line X.env = pure false := by rfl) (hw : swappedStores [tg] e X.env = pure none := by rfl) (h1 : (assignEach [tg] X.env).map (·.2) = [assign tg X.env] := by rfl) : BSt X ps (.Assign [tg] e pos) (bAsg a b) :=
  bs_of (ps_asg ha hg hs hw h1) (ss_asg (se_B a) (sg_B b))
/-- (a, b, ..) = e -/
def gTups : List BG → List PyData → BEnv → (BEnv → Prop) → Prop
  | [], [], e, P => P e
  | g :: gs, d :: ds, e, P => g (.fz d) e fun e1 => gTups gs ds e1 P
  | _, _, _, _ => False
structure BGs' (X : Cx) (ps : List Nat) (es : List Expr) (t : TGs) (gs : List BG) : Prop where
  pg : PGs X es t
  sg : ∀ F0 B F H T τ env σ vs ds Q P, PinOk ps T → R X.K F0 B F H T τ env σ → RepA X.K F vs ds → gTups gs ds env P → (∀ F' H' env' σ', P env' → R X.K F0 B F' H' T τ env' σ' → Q σ' H') → t vs σ H Q
end
end BV

set_option maxHeartbeats 4000000
/-! BV, part f: statements, loops, a def's rule. -/
namespace BV
open PySem L2

section
variable {X : Cx} {K : Fg} {ps : List Nat}
theorem bgs_nil : BGs' X ps [] gNil [] := ⟨pgs_nil, fun F0 B F H T τ env σ vs ds Q P hp r h g w => by
  cases h with
  | nil => exact ⟨rfl, w _ _ _ _ g r⟩
  | cons a b => exact g.elim⟩
theorem bgs_cons {e : Expr} {es : List Expr} {g : BG} {t : TGs} {gs : List BG} (h1 : BGt X ps e g) (h2 : BGs' X ps es t gs) (hs : (assignEach (e :: es) X.env).map (·.2) = assign e X.env :: (assignEach es X.env).map (·.2) := by rfl) : BGs' X ps (e :: es) (gCons (tgB X.K ps g) t) (g :: gs) :=
  ⟨pgs_cons h1 h2.pg hs, fun F0 B F H T τ env σ vs ds Q P hp r h q w => by
    cases h with
    | nil => exact q.elim
    | cons a b =>
      rename_i v vs d ds
      -- the rest is known on
      refine ⟨v, vs, rfl, sg_B g F0 B F H (T ++ ds.map Sl.fz) (τ ++ vs) env σ (.fz d) v _ (fun e1 => gTups gs ds e1 P) (hp.app (fun j i z => ?_)) ?_ q fun F' H' e1 σ1 q1 r1 => ?_⟩
      · rw [List.getElem?_map] at z
        cases z' : ds[j]? with
        | none => rw [z'] at z; cases z
        | some y => rw [z'] at z; cases z
      · exact (r.pushAll b).push_fz a
      · have hl : (ds.map Sl.fz).length = vs.length := by simpa using b.length.symm
        have hd : datas (ds.map Sl.fz) = some ds := by
          clear q q1 r1 b a hl
          induction ds with
          | nil => rfl
          | cons y ys ih =>
            show (datas (ys.map Sl.fz)).map (y :: ·) = _
            rw [ih]
            rfl
        exact h2.sg F0 B F' H' T τ e1 σ1 vs ds Q P hp (r1.popn hl) (R.datas hl r1 hd) q1 w⟩
def gTupB (gs : List BG) : BG := fun s e P => match s with
  | .fz (.tuple ds) => ds.length = gs.length ∧ gTups gs ds e P
  | _ => False
theorem bg_tup {es : List Expr} {k : Nat} {pos : Pos} {t : TGs} {gs : List BG} (hc : X.calm = true) (h : BGs' X ps es t gs) (hl : gs.length = es.length := by rfl) (hn : (assignEach es X.env).length = es.length := by rfl) (hst : (assignEach es X.env).findIdx? (·.1) = none := by rfl) : BGt X ps (.Tuple es k pos) (gTupB gs) :=
  bg_of (pg_tup hc h.pg hn hst) fun F0 B F H T τ env σ s v Q P hp r q w => by
    unfold gTupB at q
    split at q
    · rename_i ds
      obtain ⟨q1, q2⟩ := q
      have top := r.top_fz
      cases top with
      | tup z y => exact ⟨_, _, rfl, r.fh.sqT z, by rw [y.length, q1, hl], h.sg F0 B F H T τ env σ _ ds Q P hp r.pop y q2 w⟩
    · exact q.elim

/-- xs[i] = e, xs a list of one's own -/
def gSetL (a b : BX) : BG := fun s e P => a e fun t e1 => b e1 fun u e2 => match t, s with
  | .al k, .fz d => asInt u fun j => match e2[k]? with
    | some (.ow (.lst xs)) => ∃ m, ixN xs.length j = some m ∧ P (e2.set k (.ow (.lst (xs.set m d))))
    | _ => False
  | _, _ => False
theorem bg_setL {o i : Expr} {pos : Pos} {a b : BX} (ha : BE X o a) (hb : BE X i b)
    (hh : ∀ v, assign (.Subscript o i pos) X.env v = (do
      let ov ← holding [v] (eval o X.env)
      let iv ← holding [v, ov] (eval i X.env)
      standAt pos
      holding [v, ov, iv] (setItem ov iv v)
      release [v, ov, iv] []) := by intro _; rfl) : BGt X ps (.Subscript o i pos) (gSetL a b) :=
  bg_of (pg_sub ha hb set_list hh) fun F0 B F H T τ env σ s v Q P hp r q w =>
    se_B a F0 B F H (T ++ [s]) (τ ++ [v]) env σ _ _ r q fun t x F1 H1 e1 q1 r1 => se_B b F0 B F1 H1 (T ++ [s] ++ [t]) (τ ++ [v] ++ [x]) e1 σ _ _ r1 q1 fun u y F2 H2 e2 q2 r2 => by
      cases t with
      | al k =>
        cases s with
        | fz d =>
          obtain ⟨j, rfl, q3⟩ := asInt_of q2
          have hy := int_of r2.top_fz
          subst hy
          split at q3
          · rename_i xs e
            obtain ⟨m, hm, p⟩ := q3
            have hx := r2.pop.top_al
            obtain ⟨z, vs, e3, hz, hr, up⟩ := r2.pop.pop.pop.lst e
            rw [hx] at e3
            cases e3
            refine ⟨z, vs, _, m, rfl, rfl, hz, by rw [hr.length]; exact hm, w _ _ _ _ p (up _ _ (hr.set m r2.pop.pop.top_fz))⟩
          · exact q3.elim
        | _ => exact q2.elim
      | _ => exact q2.elim

/-! blocks -/
def bSeq (a b : BS) : BS := fun E env => a { E with nx := b E } env
def bNext : BS := fun E env => E.nx env
theorem bss_nil : BSs X ps [] bNext := bss_of pss_nil fun F0 B F H T τ env σ D E hp r h w => w.nx _ _ _ _ h r
theorem bss_cons {st : Stmt} {rest : List Stmt} {a b : BS} (ha : BSt X ps st a) (hb : BSs X ps rest b) : BSs X ps (st :: rest) (bSeq a b) := bss_of (pss_cons ha hb) fun F0 B F H T τ env σ D E hp r h w =>
  ss_B a F0 B F H T τ env σ _ _ hp r h ⟨fun F' H' e' σ' p q => ss_B b F0 B F' H' T τ e' σ' D E hp q p w, w.rt, w.bk, w.ct⟩
theorem bss_one {st : Stmt} {a : BS} (ha : BSt X ps st a) : BSs X ps [st] a := pss_one ha
def bIfS (t : BT) (a b : BS) : BS := fun E env => t env fun k e1 => if k = true then a E e1 else b E e1
theorem bs_if {t : Expr} {p q : List Stmt} {pos : Pos} {c : BT} {a b : BS} (ht : BTs X t c) (ha : BSs X ps p a) (hb : BSs X ps q b) : BSt X ps (.If t p q pos) (bIfS c a b) := bs_of (ps_if ht ha hb) fun F0 B F H T τ env σ D E hp r h w =>
  st_B c F0 B F H T τ env σ _ _ r h fun k F1 H1 e1 h1 q1 => by
    cases k with
    | true =>
      rw [if_pos rfl] at h1 ⊢
      exact ss_B a F0 B F1 H1 T τ e1 σ D E hp q1 h1 w
    | false =>
      rw [if_neg Bool.false_ne_true] at h1 ⊢
      exact ss_B b F0 B F1 H1 T τ e1 σ D E hp q1 h1 w
def bRet (a : BX) : BS := fun E env => a env E.rt
theorem bs_ret {e : Expr} {pos : Pos} {a : BX} (ha : BE X e a) : BSt X ps (.Return (some e) pos) (bRet a) := bs_of (ps_ret ha) fun F0 B F H T τ env σ D E hp r h w =>
  se_B a F0 B F H T τ env σ _ _ r h fun s v F1 H1 e1 h1 q1 => w.rt s v F1 H1 e1 σ h1 q1
def bRetN : BS := fun E env => E.rt (.fz .none) env
theorem bs_retN {pos : Pos} : BSt X ps (.Return none pos) bRetN := bs_of ps_retN fun F0 B F H T τ env σ D E hp r h w => w.rt _ _ _ _ _ σ h (r.push_fz .non)
def bDrop (a : BX) : BS := fun E env => a env fun _ e1 => E.nx e1
theorem bs_expr {e : Expr} {pos : Pos} {a : BX} (ha : BE X e a) (hs : swapsWith e none pos.line X.env = pure false := by rfl) : BSt X ps (.Expr e pos) (bDrop a) := bs_of (ps_expr ha hs) fun F0 B F H T τ env σ D E hp r h w =>
  se_B a F0 B F H T τ env σ _ _ r h fun s v F1 H1 e1 h1 q1 => w.nx _ _ _ _ h1 q1.pop
def bBreak : BS := fun E env => E.bk env
def bCont : BS := fun E env => E.ct env
theorem bs_break {pos : Pos} : BSt X ps (.Break pos) bBreak := bs_of ps_break fun F0 B F H T τ env σ D E hp r h w => w.bk _ _ _ _ h r
theorem bs_cont {pos : Pos} : BSt X ps (.Continue pos) bCont := bs_of ps_continue fun F0 B F H T τ env σ D E hp r h w => w.ct _ _ _ _ h r
theorem bs_pass {pos : Pos} : BSt X ps (.Pass pos) bNext := bs_of ps_pass fun F0 B F H T τ env σ D E hp r h w => w.nx _ _ _ _ h r
/-- x += e of ints -/
def bAug (i : Nat) (g : Int → Int → Int) (a : BX) : BS := fun E env => a env fun s e1 => match e1[i]? with
  | some (.fz (.int x)) => asInt s fun y => E.nx (e1.set i (.fz (.int (g x y))))
  | _ => False
/-- a, b = x, y: no pair is made -/
def bPar (i j : Nat) (a : BA) : BS := fun E env => a env fun ss e1 => match ss with
  | [s, t] => gStore j t e1 fun e2 => gStore i s e2 E.nx
  | _ => False
theorem bs_par (i j : Nat) {x y : Str} {p q : Expr} {px py pt pos : Pos} {kt : Nat} {k2 : Nat} {pt2 : Pos} {a : BA} (hc : X.calm = true) (hN : X.N.Nodup) (ha : BAs X [p, q] a) (hi : X.N[i]? = some x := by rfl) (hj : X.N[j]? = some y := by rfl) (hij : i ≠ j := by decide)
    (hx : X.env.scope.names.lookup x = some .local := by rfl) (hy : X.env.scope.names.lookup y = some .local := by rfl) (h1 : i ∉ ps := by decide) (h2 : j ∉ ps := by decide)
    (h : ∀ ta, PA X [p, q] ta → PS X (.Assign [.Tuple [.Name x px, .Name y py] kt pt] (.Tuple [p, q] k2 pt2) pos) (tPar i j ta) := by
      intro ta hta
      exact ps_par (by rfl) (by assumption) rfl rfl (by decide) rfl rfl hta (by rfl)) : BSt X ps (.Assign [.Tuple [.Name x px, .Name y py] kt pt] (.Tuple [p, q] k2 pt2) pos) (bPar i j a) :=
  bs_of (h _ ha) fun F0 B F H T τ env σ D E hp r q w => sa_B a F0 B F H T τ env σ _ _ r q fun ss vs F1 H1 e1 q1 hl r1 => by
    match ss, vs, q1, hl, r1 with
    | [s, t], [u, v], q1, _, r1 =>
      refine ⟨u, v, rfl, ?_⟩
      have r2 : R X.K F0 B F1 H1 (T ++ [s] ++ [t]) (τ ++ [u] ++ [v]) e1 σ := by simpa [List.append_assoc] using r1
      rw [List.set_comm _ _ hij]
      have pn : PinOk ps (T ++ [s]) := by
        cases s with
        | al k =>
          exfalso
          have q2 : gStore j t e1 fun e2 => False := q1
          cases t with
          | fz d => exact q2
          | ow o => exact q2
          | _ => exact q2
        | _ => exact hp.snoc (by intro i e; cases e)
      exact sg_name h2 F0 B F1 H1 (T ++ [s]) (τ ++ [u]) e1 σ t v _ _ pn r2 q1 fun F2 H2 e2 σ2 q2 r3 => sg_name h1 F0 B F2 H2 T τ e2 σ2 s u _ _ hp r3 q2 fun F3 H3 e3 σ3 q3 r4 => w.nx _ _ _ _ q3 r4

/-! loops -/
def bWhile (t : BT) (a : BS) : BS := fun E env => ∃ I : Nat → BEnv → Prop, (∃ m, I m env) ∧ ∀ m e, I m e → t e fun k e1 => if k = true then a { nx := fun e2 => ∃ m', m' < m ∧ I m' e2, ct := fun e2 => ∃ m', m' < m ∧ I m' e2, bk := E.nx, rt := E.rt } e1 else E.nx e1
theorem bs_while {t : Expr} {p : List Stmt} {pos : Pos} {c : BT} {a : BS} (hp : PassesOwn (model X.prog X.w) X.A X.env X.xe) (ht : BTs X t c) (ha : BSs X ps p a) : BSt X ps (.While t p [] pos) (bWhile c a) := bs_of (ps_while hp ht ha) fun F0 B F H T τ env σ D E hp r h w => by
  obtain ⟨I, ⟨m, h0⟩, turn⟩ := h
  refine ⟨fun m σ H => ∃ F e, I m e ∧ R X.K F0 B F H T τ e σ, ⟨m, F, env, h0, r⟩, fun m σ H ⟨F, e, hi, r⟩ => ?_⟩
  refine st_B c F0 B F H T τ e σ _ _ r (turn m e hi) fun k F1 H1 e1 h1 q1 => ?_
  cases k with
  | true =>
    rw [if_pos rfl] at h1 ⊢
    refine ⟨fun σ' H' => ∃ m', m' < m ∧ ∃ F e, I m' e ∧ R X.K F0 B F H' T τ e σ', fun σ' H' h => h, ?_⟩
    exact ss_B a F0 B F1 H1 T τ e1 σ _ _ hp q1 h1 ⟨fun F2 H2 e2 σ2 ⟨m', l, i⟩ q => ⟨m', l, F2, e2, i, q⟩, w.rt, w.nx, fun F2 H2 e2 σ2 ⟨m', l, i⟩ q => ⟨m', l, F2, e2, i, q⟩⟩
  | false =>
    rw [if_neg Bool.false_ne_true] at h1 ⊢
    exact w.nx _ _ _ _ h1 q1

abbrev BI := BEnv → (List PyData → BEnv → Prop) → Prop
/-- an iterator that yields the data ds while the temporaries stand -/
def WalkB (K : Fg) (F0 B : Hp) (J : It) (ds : List PyData) (T : List Sl) (τ : List V) : Prop := ∀ F H env σ U υ, U.length = υ.length → R K F0 B F H (T ++ U) (τ ++ υ) env σ →
  (∀ i d, ds[i]? = some d → J.go i H ∧ ∀ x H3, J.yld i H x H3 → ∃ F3, R K F0 B F3 H3 (T ++ U ++ [.fz d]) (τ ++ υ ++ [x]) env σ) ∧ J.stop ds.length H
def SI (K : Fg) (wi : TI) (b : BI) : Prop := ∀ F0 B F H T τ env σ Rk P, R K F0 B F H T τ env σ → b env P → (∀ ds J F' H' env' S ν, P ds env' → S.length = ν.length → Plain S → R K F0 B F' H' (T ++ S) (τ ++ ν) env' σ → WalkB K F0 B J ds (T ++ S) (τ ++ ν) → Rk J H') → wi σ H Rk
def tiB (K : Fg) (b : BI) : TI := fun σ H Rk => ∃ F0 B F T τ env P, R K F0 B F H T τ env σ ∧ b env P ∧ ∀ ds J F' H' env' S ν, P ds env' → S.length = ν.length → Plain S → R K F0 B F' H' (T ++ S) (τ ++ ν) env' σ → WalkB K F0 B J ds (T ++ S) (τ ++ ν) → Rk J H'
theorem si_B (b : BI) : SI K (tiB K b) b := fun F0 B F H T τ env σ Rk P r h w => ⟨F0, B, F, T, τ, env, P, r, h, w⟩
def BIt (X : Cx) (tg iter : Expr) (b : BI) : Prop := PI X tg iter (tiB X.K b)
theorem bi_of {tg iter : Expr} {wi : TI} {b : BI} (h : PI X tg iter wi) (hs : SI X.K wi b) : BIt X tg iter b := ⟨fun pins s σ H Rk I ⟨F0, B, F, T, τ, env, P, r, p, w⟩ => h.run pins s σ H Rk I (hs F0 B F H T τ env σ Rk P r p w)⟩
def bFor (bi : BI) (g : BG) (a : BS) : BS := fun E env => bi env fun ds e1 => ∃ I : Nat → BEnv → Prop, I 0 e1 ∧ (∀ i d e, ds[i]? = some d → I i e → g (.fz d) e fun e2 => a { nx := I (i + 1), ct := I (i + 1), bk := E.nx, rt := E.rt } e2) ∧ ∀ e, I ds.length e → E.nx e
theorem bs_for {tg iter : Expr} {body : List Stmt} {pos : Pos} {bi : BI} {g : BG} {a : BS} (hp : PassesOwn (model X.prog X.w) X.A X.env X.xe) (hc : X.calm = true) (hi : BIt X tg iter bi) (hg : BGt X ps tg g) (ha : BSs X ps body a)
    (hs : ∀ x, foldedSetIterable iter X.env x = pure x := by intro _; rfl) : BSt X ps (.For tg iter body [] pos) (bFor bi g a) := bs_of (ps_for hp hc hi hg ha hs) fun F0 B F H T τ env σ D E hp r h w =>
  si_B bi F0 B F H T τ env σ _ _ r h fun ds J F1 H1 e1 S ν h1 hl hS r1 walk => by
    obtain ⟨I, i0, turn, done⟩ := h1
    have hp' : PinOk ps (T ++ S) := hp.app hS
    refine ⟨fun i m σ H => m = ds.length - i ∧ i ≤ ds.length ∧ ∃ F e, I i e ∧ R X.K F0 B F H (T ++ S) (τ ++ ν) e σ, ⟨ds.length, rfl, Nat.zero_le _, F1, e1, i0, r1⟩, ?_⟩
    rintro i m σ' H' ⟨rfl, hi, F2, e2, hI, r2⟩
    obtain ⟨wi, ws⟩ := walk F2 H' e2 σ' [] [] rfl (by simpa using r2)
    by_cases hlt : i < ds.length
    · obtain ⟨go, yl⟩ := wi i ds[i] (List.getElem?_eq_getElem hlt)
      refine .inr ⟨go, fun σ' H' => ∃ F e, I (i + 1) e ∧ R X.K F0 B F H' (T ++ S) (τ ++ ν) e σ', fun σ3 H3 ⟨F, e, h, r⟩ => ⟨ds.length - (i + 1), by omega, rfl, hlt, F, e, h, r⟩, fun x H3 hy => ?_⟩
      obtain ⟨F3, r3'⟩ := yl x H3 hy
      have r3 : R X.K F0 B F3 H3 (T ++ S ++ [.fz ds[i]]) (τ ++ ν ++ [x]) e2 σ' := by simpa using r3'
      refine sg_B g F0 B F3 H3 (T ++ S) (τ ++ ν) e2 σ' _ x _ _ hp' r3 (turn i _ e2 (List.getElem?_eq_getElem hlt) hI) fun F4 H4 e4 σ4 h4 r4 => ?_
      refine ss_B a F0 B F4 H4 (T ++ S) (τ ++ ν) e4 σ4 _ _ hp' r4 h4 ⟨fun F5 H5 e5 σ5 h r => ⟨F5, e5, h, r⟩, fun s v F5 H5 e5 σ5 h r => ?_, fun F5 H5 e5 σ5 h r => w.nx _ _ _ _ h (r.popn hl), fun F5 H5 e5 σ5 h r => ⟨F5, e5, h, r⟩⟩
      exact w.rt s v F5 H5 e5 σ5 h (R.drop (S := S) (ν := ν) r hl)
    · have e : i = ds.length := by omega
      subst e
      exact .inl ⟨ws, w.nx _ _ _ _ (done _ hI) (r2.popn hl)⟩
/-- over a known list or tuple -/
def biSeq (a : BX) : BI := fun e P => a e fun s e1 => match s with
  | .fz (.list ds) => P ds e1
  | _ => False
def biTup (a : BX) : BI := fun e P => a e fun s e1 => match s with
  | .fz (.tuple ds) => P ds e1
  | _ => False
theorem bi_list {tg l : Expr} {a : BX} (ha : BE X l a) : BIt X tg l (biSeq a) := bi_of (pi_list ha) fun F0 B F H T τ env σ Rk P r h w =>
  se_B a F0 B F H T τ env σ _ _ r h fun s v F1 H1 e1 h1 r1 => by
    unfold biSeq at h
    split at h1
    · rename_i ds
      have top := r1.top_fz
      cases top with
      | lst z y =>
        rename_i p vs
        refine ⟨p, rfl, ⟨vs, r1.fh.sqL z⟩, w ds _ F1 H1 e1 [.fz (.list ds)] [.ref p] h1 rfl (plain_of rfl) r1 fun F2 H2 e2 σ2 U υ hU r2 => ?_⟩
        have top2 := (r2.popn hU).top_fz
        cases top2 with
        | lst z2 y2 =>
          rename_i ws
          have q2 := r2.fh.sqL z2
          refine ⟨fun i d hd => ?_, ⟨ws, q2, by rw [y2.length]; exact Nat.le_refl _⟩⟩
          obtain ⟨x, hx, rx⟩ := y2.get hd
          refine ⟨⟨ws, x, q2, hx⟩, fun x' H3 hy => ?_⟩
          obtain ⟨e3, hy⟩ := hy
          subst e3
          have e4 := hy ws q2
          rw [hx] at e4
          cases e4
          exact ⟨F2, r2.push_fz rx⟩
    · exact h1.elim
theorem bi_tup {tg l : Expr} {a : BX} (ha : BE X l a) : BIt X tg l (biTup a) := bi_of (pi_tup ha) fun F0 B F H T τ env σ Rk P r h w =>
  se_B a F0 B F H T τ env σ _ _ r h fun s v F1 H1 e1 h1 r1 => by
    split at h1
    · rename_i ds
      have top := r1.top_fz
      cases top with
      | tup z y =>
        rename_i p vs
        refine ⟨p, rfl, ⟨vs, r1.fh.sqT z⟩, w ds _ F1 H1 e1 [.fz (.tuple ds)] [.ref p] h1 rfl (plain_of rfl) r1 fun F2 H2 e2 σ2 U υ hU r2 => ?_⟩
        have top2 := (r2.popn hU).top_fz
        cases top2 with
        | tup z2 y2 =>
          rename_i ws
          have q2 := r2.fh.sqT z2
          refine ⟨fun i d hd => ?_, ⟨ws, q2, by rw [y2.length]; exact Nat.le_refl _⟩⟩
          obtain ⟨x, hx, rx⟩ := y2.get hd
          refine ⟨⟨ws, x, q2, hx⟩, fun x' H3 hy => ?_⟩
          obtain ⟨e3, hy⟩ := hy
          subst e3
          have e4 := hy ws q2
          rw [hx] at e4
          cases e4
          exact ⟨F2, r2.push_fz rx⟩
    · exact h1.elim
def rangeD (lo : Int) (n : Nat) : List PyData := (List.range n).map fun (i : Nat) => .int (lo + (i : Int))
theorem walk_range {F0 B : Hp} {T : List Sl} {τ : List V} {lo : Int} {n : Nat} : WalkB K F0 B (Itr lo n) (rangeD lo n) T τ := fun F H env σ U υ hU r => by
  refine ⟨fun i d hd => ?_, by show n ≤ (rangeD lo n).length; simp [rangeD]⟩
  have hi : i < n := by
    have := (List.getElem?_eq_some_iff.mp hd).1
    simpa [rangeD] using this
  have e : d = .int (lo + (i : Int)) := by
    rw [rangeD, List.getElem?_map, List.getElem?_range hi] at hd
    exact (Option.some.inj hd).symm
  subst e
  refine ⟨hi, fun x H3 hy => ?_⟩
  obtain ⟨e1, e2⟩ := hy
  subst e1
  subst e2
  exact ⟨F, r.push_fz (.int _)⟩
def biR1 (a : BA) : BI := fun e P => a e fun ss e1 => match ss with
  | [.fz (.int n)] => (-(2 ^ 62) ≤ n ∧ n < 2 ^ 62) ∧ P (rangeD 0 n.toNat) e1
  | _ => False
def biR2 (a : BA) : BI := fun e P => a e fun ss e1 => match ss with
  | [.fz (.int m), .fz (.int n)] => (-(2 ^ 62) ≤ m ∧ m < 2 ^ 62 ∧ -(2 ^ 62) ≤ n ∧ n < 2 ^ 62) ∧ P (rangeD m (n - m).toNat) e1
  | _ => False
theorem bi_range1 {tg x : Expr} {p pos : Pos} {a : BA} (hg : Gl X "range") (hm : X.mg "range" = none) (ha : BAs X [x] a) (hs : starEach [x] X.env = [(false, eval x X.env)] := by rfl) : BIt X tg (.Call (.Name "range" p) [x] [] pos) (biR1 a) := bi_of (pi_range1 hg hm ha hs) fun F0 B F H T τ env σ Rk P r h w =>
  sa_B a F0 B F H T τ env σ _ _ r h fun ss vs F1 H1 e1 h1 hl r1 => by
    split at h1
    · rename_i n
      match vs, hl, r1 with
      | [v], _, r1 =>
        obtain ⟨hn, p⟩ := h1
        have hv := int_of r1.top_fz
        subst hv
        exact ⟨n, rfl, hn.1, hn.2, w _ _ F1 H1 e1 [] [] p rfl (plain_of rfl) (by simpa using r1.pop) walk_range⟩
    · exact h1.elim
theorem bi_range2 {tg x y : Expr} {p pos : Pos} {a : BA} (hg : Gl X "range") (hm : X.mg "range" = none) (ha : BAs X [x, y] a) (hs : starEach [x, y] X.env = [(false, eval x X.env), (false, eval y X.env)] := by rfl) (hs2 : starEach [y] X.env = [(false, eval y X.env)] := by rfl) : BIt X tg (.Call (.Name "range" p) [x, y] [] pos) (biR2 a) := bi_of (pi_range2 hg hm ha hs hs2) fun F0 B F H T τ env σ Rk P r h w =>
  sa_B a F0 B F H T τ env σ _ _ r h fun ss vs F1 H1 e1 h1 hl r1 => by
    split at h1
    · rename_i m n
      match vs, hl, r1 with
      | [u, v], _, r1 =>
        obtain ⟨hn, p⟩ := h1
        have r2 : R X.K F0 B F1 H1 (T ++ [.fz (.int m)] ++ [.fz (.int n)]) (τ ++ [u] ++ [v]) e1 σ := by simpa [List.append_assoc] using r1
        have hv := int_of r2.top_fz
        have hu := int_of r2.two_fz
        subst hv
        subst hu
        exact ⟨m, n, rfl, hn, w _ _ F1 H1 e1 [] [] p rfl (plain_of rfl) (by simpa using r2.pop.pop) walk_range⟩
    · exact h1.elim
end
end BV

set_option maxHeartbeats 4000000
/-! BV, part g: a def's rule, a law's end. -/
namespace BV
open PySem L2

section
variable {K : Fg} {F0 B F G H H' : Hp} {T S : List Sl} {τ ν vs : List V} {env : List Sl} {σ : L2.St} {c : Col} {v w : V} {d : PyData} {s : Sl} {o : Ow} {i j : Nat}
/-- known values, and owned objects where the pins are -/
def argsOk (pins : List Nat) : Nat → List Sl → Bool
  | _, [] => true
  | j, .fz _ :: r => argsOk pins (j + 1) r
  | j, .ow _ :: r => pins.contains j && argsOk pins (j + 1) r
  | _, _ :: _ => false
theorem argsOk_at : ∀ {l : List Sl} {pins : List Nat} {k : Nat}, argsOk pins k l = true → ∀ (j : Nat) (s : Sl), l[j]? = some s → (∃ d, s = .fz d) ∨ ((∃ o, s = .ow o) ∧ (k + j) ∈ pins)
  | [], _, _, _, j, s, h => by simp at h
  | x :: r, pins, k, h, 0, s, e => by
    have e' : x = s := by simpa using e
    subst e'
    cases x with
    | fz d => exact .inl ⟨d, rfl⟩
    | ow o =>
      have h' : (pins.contains k && argsOk pins (k + 1) r) = true := h
      rw [Bool.and_eq_true] at h'
      exact .inr ⟨⟨o, rfl⟩, by simpa using h'.1⟩
    | _ => cases h
  | x :: r, pins, k, h, j + 1, s, e => by
    have e' : r[j]? = some s := by simpa using e
    have h2 : argsOk pins (k + 1) r = true := by
      cases x with
      | fz d => exact h
      | ow o =>
        have h' : (pins.contains k && argsOk pins (k + 1) r) = true := h
        rw [Bool.and_eq_true] at h'
        exact h'.2
      | _ => cases h
    rcases argsOk_at h2 j s e' with z | ⟨z, y⟩
    · exact .inl z
    · exact .inr ⟨z, by
        rw [show k + (j + 1) = k + 1 + j by omega]
        exact y⟩
theorem R.enter {args : List Sl} {m : Nat} {pins : List Nat} (r : R K F0 B F H args vs [] []) (h : argsOk pins 0 args = true) : R K F0 B F H [] [] (args ++ List.replicate m .un) (vs.map some ++ List.replicate m none) := by
  obtain ⟨c, q⟩ := r
  let c' : Col := fun x => match c x with
    | some (.inl j) => some (Sum.inr j)
    | _ => none
  refine ⟨c', ⟨q.f0, q.fh, q.bh, q.nw, rfl, by simp [q.len], fun b hb => q.col b fun e => hb ?_, fun j s v h1 h2 => by simp at h1, fun i s h1 => ?_⟩⟩
  · show (match c b with | some (.inl j) => some (Sum.inr j) | _ => (none : Option (Nat ⊕ Nat))) = none
    rw [e]
  · by_cases hi : i < args.length
    · rw [List.getElem?_append_left hi] at h1
      have hv : i < vs.length := by
        rw [← q.len]
        exact hi
      have w := q.tmp i s vs[i] h1 (List.getElem?_eq_getElem hv)
      have eσ : (vs.map some ++ List.replicate m none)[i]? = some (some vs[i]) := by
        rw [List.getElem?_append_left (by simpa using hv), List.getElem?_map, List.getElem?_eq_getElem hv]
        rfl
      rcases argsOk_at h i s h1 with ⟨d, rfl⟩ | ⟨⟨o, rfl⟩, _⟩
      · exact ⟨_, eσ, w⟩
      · obtain ⟨a, e, z⟩ := w
        refine ⟨a, by rw [eσ, e], z.mono (Sub.refl _) (fun _ _ => rfl) fun b hb => ?_⟩
        show (match c b with | some (.inl j) => some (Sum.inr j) | _ => (none : Option (Nat ⊕ Nat))) = _
        rw [hb]
    · rw [List.getElem?_append_right (by omega), List.getElem?_replicate] at h1
      split at h1
      · cases h1
        trivial
      · cases h1
def outsOf (pins : List Nat) (n : Nat) (e : BEnv) : List Sl := (List.range n).map fun (j : Nat) => if pins.contains j = true then e.getD j .un else .un
theorem outsOf_len {pins : List Nat} {n : Nat} {e : BEnv} : (outsOf pins n e).length = n := by simp [outsOf]
theorem outsOf_at {pins : List Nat} {n : Nat} {e : BEnv} {j : Nat} {s : Sl} (h : (outsOf pins n e)[j]? = some s) : j < n ∧ (s = .un ∨ (j ∈ pins ∧ e[j]? = some s)) := by
  have hj : j < n := by
    have := (List.getElem?_eq_some_iff.mp h).1
    rwa [outsOf_len] at this
  refine ⟨hj, ?_⟩
  unfold outsOf at h
  rw [List.getElem?_map, List.getElem?_range hj] at h
  have h' : (if pins.contains j = true then e.getD j Sl.un else Sl.un) = s := by simpa using h
  by_cases hp : pins.contains j = true
  · rw [if_pos hp] at h'
    rw [List.getD_eq_getElem?_getD] at h'
    cases z : e[j]? with
    | none =>
      rw [z] at h'
      exact .inl h'.symm
    | some y =>
      rw [z] at h'
      exact .inr ⟨by simpa using hp, by rw [← h']; rfl⟩
  · rw [if_neg hp] at h'
    exact .inl h'.symm
theorem R.leave {pins : List Nat} {n : Nat} {pv : List V} (r : R K F0 B F H (pins.map Sl.al ++ [s]) (pv ++ [v]) env σ) (hn : n = vs.length) (hs : ∀ i, s ≠ .al i) (hpv : pv.length = pins.length) (hpa : ∀ (k j : Nat) (u : V), pins[k]? = some j → pv[k]? = some u → vs[j]? = some u ∨ vs.length ≤ j) :
    R K F0 B F H (outsOf pins n env ++ [s]) (vs ++ [v]) [] [] ∧ Plain (outsOf pins n env ++ [s]) := by
  obtain ⟨c, q⟩ := r
  have slot : ∀ (j : Nat) (y : Sl), (outsOf pins n env)[j]? = some y → y = .un ∨ ∃ u, vs[j]? = some u ∧ σ[j]? = some (some u) ∧ env[j]? = some y := fun j y h => by
    obtain ⟨hj, z⟩ := outsOf_at h
    rcases z with z | ⟨hp, e⟩
    · exact .inl z
    · obtain ⟨k, hk⟩ := List.getElem?_of_mem hp
      have hk' : k < pins.length := (List.getElem?_eq_some_iff.mp hk).1
      obtain ⟨u, hu⟩ : ∃ u, pv[k]? = some u := ⟨pv[k], List.getElem?_eq_getElem (by omega)⟩
      have w := q.tmp k (.al j) u (by rw [List.getElem?_append_left (by simpa using hk'), List.getElem?_map, hk]; rfl) (by rw [List.getElem?_append_left (by omega)]; exact hu)
      rcases hpa k j u hk hu with x | x
      · exact .inr ⟨u, x, w, e⟩
      · omega
  let c' : Col := fun x => match c x with
    | some (.inr i) => if i < n then some (Sum.inl i) else none
    | some (.inl j) => if j = pins.length then some (Sum.inl n) else none
    | none => none
  have c0 : ∀ x, c x = none → c' x = none := fun x e => by
    show (match c x with | some (.inr i) => if i < n then some (Sum.inl i) else none | some (.inl j) => if j = pins.length then some (Sum.inl n) else none | none => (none : Option (Nat ⊕ Nat))) = none
    rw [e]
  refine ⟨⟨c', ⟨q.f0, q.fh, q.bh, q.nw, by simp [outsOf_len, hn], rfl, fun b hb => q.col b fun e => hb (c0 b e), fun j y u h1 h2 => ?_, fun i s h1 => by simp at h1⟩⟩, ?_⟩
  · rcases get_snoc h1 with ⟨hj, e⟩ | ⟨rfl, rfl⟩
    · rw [outsOf_len] at hj
      have e2 : vs[j]? = some u := by
        rw [List.getElem?_append_left (by omega)] at h2
        exact h2
      rcases slot j y e with z | ⟨u', e3, e4, e5⟩
      · subst z
        trivial
      · rw [e2] at e3
        cases e3
        have w := q.slt j y e5
        cases y with
        | un => trivial
        | fz d =>
          obtain ⟨x, e6, z⟩ := w
          rw [e4] at e6
          cases e6
          exact z
        | ow o =>
          obtain ⟨a, e6, z⟩ := w
          rw [e4] at e6
          cases e6
          refine ⟨a, rfl, z.mono (Sub.refl _) (fun _ _ => rfl) fun b hb => ?_⟩
          show (match c b with | some (.inr i) => if i < n then some (Sum.inl i) else none | some (.inl j) => if j = pins.length then some (Sum.inl n) else none | none => (none : Option (Nat ⊕ Nat))) = _
          rw [hb]
          exact if_pos hj
        | al i => exact w.elim
        | cst x => exact w.elim
    · rw [outsOf_len] at h2
      rw [hn, snoc_last] at h2
      cases h2
      have top := q.top
      rw [List.length_map] at top
      refine tmp_col (k := (outsOf pins n env).length) (fun b hb => ?_) (tmp_any hs top)
      rw [outsOf_len]
      show (match c b with | some (.inr i) => if i < n then some (Sum.inl i) else none | some (.inl j) => if j = pins.length then some (Sum.inl n) else none | none => (none : Option (Nat ⊕ Nat))) = _
      rw [hb]
      exact if_pos rfl
  · refine plain_append (fun j i e => ?_) (plain_cons (fun j i e => by simp at e) hs)
    rcases slot j _ e with z | ⟨u, _, _, e5⟩
    · cases z
    · exact q.slt j _ e5
end

/-- a def's ends -/
def endsF (pins : List Nat) (n : Nat) (P : Sl → List Sl → Prop) : BEnds where
  nx := fun e => P (.fz .none) (outsOf pins n e)
  rt := fun s e => match s with
    | .fz d => P (.fz d) (outsOf pins n e)
    | .ow o => P (.ow o) (outsOf pins n e)
    | .al i => match e[i]? with
      | some (.ow o) => pins.contains i = false ∧ P (.ow o) (outsOf pins n e)
      | _ => False
    | _ => False
def pinVs (pins : List Nat) (vs : List V) : List V := pins.map fun j => vs.getD j .non
theorem R.pinned {K : Fg} {F0 B F H : Hp} {env : BEnv} {vs : List V} {σ : L2.St} (hσ : ∀ j, j < vs.length → σ[j]? = some (some (vs.getD j .non))) : ∀ {pins : List Nat} {T : List Sl} {τ : List V}, (∀ j ∈ pins, j < vs.length) → R K F0 B F H T τ env σ → R K F0 B F H (T ++ pins.map Sl.al) (τ ++ pinVs pins vs) env σ
  | [], T, τ, _, r => by simpa [pinVs] using r
  | j :: pins, T, τ, h, r => by
    have r1 := R.pinned hσ (fun j' hj' => h j' (List.mem_cons_of_mem _ hj')) (r.push_al (hσ j (h j (List.mem_cons_self ..))))
    simpa [pinVs, List.append_assoc] using r1
theorem outsOf_un {pins : List Nat} {n i : Nat} {e : BEnv} (h : pins.contains i = false) : outsOf pins n (e.set i .un) = outsOf pins n e := by
  unfold outsOf
  apply List.map_congr_left
  intro j hj
  by_cases hp : pins.contains j = true
  · rw [if_pos hp, if_pos hp]
    have hne : j ≠ i := fun z => by
      subst z
      rw [hp] at h
      cases h
    rw [List.getD_eq_getElem?_getD, List.getD_eq_getElem?_getD, List.getElem?_set_ne (Ne.symm hne)]
  · rw [if_neg hp, if_neg hp]

section
variable {P : Program} {w : World} {K : Fg} {mg : Str → Option Value} {base : Heap}
/-- THE RULE for a def, by data -/
theorem fg_ok {x qual : Str} {st : Stmt} {f : Addr} {fd : FuncData} {N ps : List Str} {k n : Nat} {ph : Ph} {pins : List Nat} (F : Fun K x qual st f fd) (S : FnScope N ps (defScope st)) (hn : ps.length = n) (hpn : ∀ j ∈ pins, j < n) (shape : ∀ args Q, ph args Q → argsOk pins 0 args = true)
    (hbody : ∀ (cdv : Value) (A : Around) (outer : List Env) (s : Shared) (H : Hp) (E : XK), A.guards = some [] → Room k (A.deeper (PyProof.Rows.envOfC qual (defScope st) s.heap.objs.size f cdv)) → ∀ (args : List Sl) (Q : Sl → List Sl → Prop), args.length = n → ph args Q →
      ∃ b, BSs (cxOf CX0 P w K mg base N qual (defScope st) f cdv A outer s H E).nox pins (defBody st) b ∧ b (endsF pins n Q) (args ++ List.replicate (N.length - n) .un)) : FnG P w K mg base CX0 (k + 1) f fd ps (spB K n ph) := by
  obtain ⟨oc, od, kV, doc, pm, an, cdv, ct, osl, rfl, lk, hcd⟩ := F.ex
  refine ⟨fun us G Q E ⟨_, _, _, _, h1, h2, _⟩ => by omega, fun A outer s G ar us xs Q E hgd hr e0 hb rel hsp => ?_⟩
  obtain ⟨F1, B1, args, Pd, ha, hal, hpl, r0, hph, back⟩ := hsp
  have hxl : xs.length = ps.length := by omega
  have kin : K.In s.heap := e0.mod.kin.keeps fun b o e => (e0.bs b o e).1
  have nol : s.heap.NoLimit := e0.mod.nolimit.keeps fun b o e => (e0.bs b o e).1
  have hloc : ∀ y ∈ ps.zip us, (defScope st).names.lookup y.1 = some .local ∨ ((defScope st).names.lookup y.1 = some .cell ∧ ((cellsFrom (s.heap.objs.size + 1) (defScope st).names []).lookup y.1).isSome = true) := fun y hy => by
    have hm := (List.of_mem_zip (show (y.1, y.2) ∈ ps.zip us from hy)).1
    exact (S.par y.1 hm).imp id fun z => ⟨z, PySem.W.cellsFrom_some _ _ _ (.inl z)⟩
  refine codeAny_call_function hr.depth (kin _ _ lk) rfl S.co S.gen rfl (PySem.W.codeRec_of kin hcd) (hb _ _ _ _ (wpAny_newFunctionEnv_cells S.kind hloc fun env he s1 ic => ?_))
  subst he
  refine ⟨nol.keeps ic.toInCall.keep, codeAny_func ?_⟩
  obtain ⟨b, hbs, hb2⟩ := hbody cdv A outer s G E hgd (hr.deeper _) args Pd ha hph
  have I0 := inv_start (E := E) (CX := CX0) S hr.hd e0 hxl rel ic
  have hst : L2.start N xs = xs.map some ++ List.replicate (N.length - n) none := by
    unfold L2.start
    rw [show xs.length = n by omega]
  have r1 : R K F1 B1 F1 G [] [] (args ++ List.replicate (N.length - n) .un) (L2.start N xs) := by
    rw [hst]
    exact r0.enter (shape _ _ hph)
  have hσ : ∀ j, j < xs.length → (L2.start N xs)[j]? = some (some (xs.getD j .non)) := fun j hj => by
    rw [hst, List.getElem?_append_left (by simpa using hj), List.getElem?_map, List.getElem?_eq_getElem hj, List.getD_eq_getElem?_getD, List.getElem?_eq_getElem hj]
    rfl
  have r2 := R.pinned hσ (pins := pins) (fun j hj => by have := hpn j hj; omega) r1
  have hpin : PinOk pins ([] ++ pins.map Sl.al) := fun j i e => by
    rw [List.nil_append, List.getElem?_map] at e
    cases z : pins[j]? with
    | none => rw [z] at e; cases e
    | some y =>
      rw [z] at e
      cases e
      exact List.mem_of_getElem? z
  have fin : ∀ {F' H' : Hp} {env' : BEnv} {σ' : L2.St} {s' : Sl} {v : V}, (∀ i, s' ≠ .al i) → Pd s' (outsOf pins n env') → R K F1 B1 F' H' ([] ++ pins.map Sl.al ++ [s']) ([] ++ pinVs pins xs ++ [v]) env' σ' → Q v H' := fun {F' H' env' σ' s' v} hs p r => by
    have r' : R K F1 B1 F' H' (pins.map Sl.al ++ [s']) (pinVs pins xs ++ [v]) env' σ' := by simpa using r
    obtain ⟨r3, pl⟩ := R.leave (n := n) (vs := xs) r' (by omega) hs (by simp [pinVs]) fun k j u h1 h2 => by
      rw [pinVs, List.getElem?_map, h1] at h2
      have h3 : xs.getD j .non = u := by simpa using h2
      by_cases hj : j < xs.length
      · refine .inl ?_
        rw [List.getD_eq_getElem?_getD, List.getElem?_eq_getElem hj] at h3
        rw [List.getElem?_eq_getElem hj]
        exact congrArg some h3
      · exact .inr (by omega)
    exact back s' v _ F' H' p outsOf_len pl r3
  have ends : EndOk K F1 B1 ([] ++ pins.map Sl.al) ([] ++ pinVs pins xs) (endsF pins n Pd) { nx := fun _ H' => Q .non H', rt := Q } :=
    ⟨fun F' H' e' σ' p r => fin (fun i z => by cases z) p (r.push_fz .non), fun s' v F' H' e' σ' p r => by
      cases s' with
      | fz d => exact fin (fun i z => by cases z) p r
      | ow o => exact fin (fun i z => by cases z) p r
      | al i =>
        have p' : (match e'[i]? with | some (.ow o) => pins.contains i = false ∧ Pd (.ow o) (outsOf pins n e') | _ => False) := p
        split at p'
        · rename_i o e
          obtain ⟨hi, p1⟩ := p'
          have r' : R K F1 B1 F' H' (([] ++ pins.map Sl.al) ++ .al i :: []) (([] ++ pinVs pins xs) ++ v :: []) e' σ' := r
          obtain ⟨r4, _⟩ := r'.take rfl e
          exact fin (s' := .ow o) (fun i z => by cases z) (by rw [outsOf_un hi]; exact p1) r4
        · exact p'.elim
      | _ => exact p.elim, fun _ _ _ _ p _ => p.elim, fun _ _ _ _ p _ => p.elim⟩
  have main := hbs.nox.run [] s1 (L2.start N xs) G { nx := fun _ H' => Q .non H', rt := Q } I0 ⟨F1, B1, F1, _, _, _, _, hpin, r2, hb2, ends⟩
  refine wpAny_mono main (fun fl s' hs => ?_) fun e s' hs => hs
  match fl, hs with
  | .ret u, ⟨v, σ', H', J, rv, q⟩ => exact ⟨v, H', J.os, J.bare, J.base, J.hok, rv, q⟩
  | .next, ⟨σ', H', J, q⟩ => exact ⟨.non, H', J.os, J.bare, J.base, J.hok, rfl, q⟩
  | .brk, ⟨_, _, _, q⟩ => exact False.elim q
  | .cont, ⟨_, _, _, q⟩ => exact False.elim q
end
end BV

set_option maxHeartbeats 4000000
/-! BV, part h: the end of a law's row. -/
namespace BV
open PySem PySem.Spec PyProof.Rows L2

/-- a law: of a list of ints, however it is made, it tells True -/
def phLaw : Ph := fun args Q => ∃ ns : List Int, args = [.fz (.list (ns.map PyData.int))] ∧ ns.length ≤ 63 ∧ Q (.fz (.bool true)) [.un]
theorem phLaw_shape : ∀ args Q, phLaw args Q → argsOk [] 0 args = true := fun args Q ⟨ns, e, _⟩ => by
  subst e
  rfl
theorem law_sp {K : Fg} {H : Hp} {a : Addr} {ns : List Int} {E : XK} (h : SqL K H a (ns.map V.int)) (hl : ns.length ≤ 63) : spB K 1 phLaw [.ref a] H (fun v _ => v = .bl true) E := by
  refine ⟨H, H, [.fz (.list (ns.map PyData.int))], fun s _ => s = .fz (.bool true), rfl, rfl, plain_of rfl, ⟨fun _ => none, ⟨Sub.refl H, Sub.refl H, Sub.refl H, fun a h => .inl h, rfl, rfl, fun b z => absurd rfl z, fun j s v h1 h2 => ?_, fun i s z => by simp at z⟩⟩, ⟨ns, rfl, hl, rfl⟩, fun s v outs F' H' hs _ _ r => ?_⟩
  · cases j with
    | zero =>
      cases h1
      cases h2
      exact .lst h (RepA.ints ns)
    | succ j => simp at h1
  · subst hs
    exact bool_of r.top_fz

theorem lawRun {P : Program} {w : World} {K : Fg} {mg mb : Str → Option Value} {k : Nat} {fa a : Addr} {fd : FuncData} {x : Str} {s1 : Shared} {vs : List Value} {ns : List Int}
    (kin : K.In s1.heap) (gl : s1.heap.Ns mainGlobals mg) (bl : s1.heap.Ns builtinsNs mb) (bb : ∀ y : Str, y ≠ "__name__" → mb y = bootBuiltins y) (nol : s1.heap.NoLimit) (hg : s1.gens = #[])
    (ha : s1.heap.get? a = some { cls := .type "list", data := .seq vs.toArray }) (hi : IntsAre vs ns) (hl : ns.length ≤ 63) (hr : Room k callerA)
    (F : ∀ base : Heap, K.In base → base.Ns mainGlobals mg → FnG P w K mg base CX0 k fa fd [x] (spB K 1 phLaw)) (hbind : ∀ (s : Shared) (u : Value), BindsTo s fd ⟨[u], []⟩ [(x, u)]) :
    codeAny (model P w) callerA (.call (.ref fa) ⟨[.ref a], []⟩) (fun r s' => r = .ok (.ret (.bool true)) ∧ OldK s1.heap s'.heap ∧ s'.os = s1.os ∧ AllBare s'.gens) s1 := by
  have rel := vals_ints hi
  have hvl := hi.length
  have szl : ns.length ≤ sizeLine := Nat.le_trans hl (by decide)
  -- the abstract heap: the script alone, where it is not the module's own
  obtain ⟨H, hS, hHok, hfz, hKn⟩ : ∃ H : Hp, SqL K H a (ns.map V.int) ∧ HOk P w H s1.heap ∧ (∀ b u, H b = some u → b = a ∧ ∃ o ys, u = .frz o (.lst ys)) ∧ (H a ≠ none → K.lookup a = none) := by
    cases hk : K.lookup a with
    | some o =>
      have e := kin a o hk
      rw [ha] at e
      cases e
      exact ⟨fun _ => none, .inr ⟨_, vs.toArray, _, hk, rfl, rfl, rfl, by rw [List.size_toArray, hvl]; exact szl, by simpa using rel⟩, fun b u z => (nomatch (show (none : Option HO) = some u from z)), fun b u z => (nomatch (show (none : Option HO) = some u from z)), fun z => absurd rfl z⟩
    | none =>
      refine ⟨fun b => if b = a then some (.frz { cls := .type "list", data := .seq vs.toArray } (.lst (ns.map V.int))) else none, .inl (.inr ⟨_, if_pos rfl⟩), fun b u z => ?_, fun b u z => ?_, fun _ => rfl⟩
      · by_cases hb : b = a
        · cases (if_pos hb).symm.trans z
          exact ⟨hb ▸ ha, by simpa using szl, vs, _, rel, hb ▸ ha⟩
        · cases (if_neg hb).symm.trans z
      · by_cases hb : b = a
        · cases (if_pos hb).symm.trans z
          exact ⟨hb, _, _, rfl⟩
        · cases (if_neg hb).symm.trans z
  have inB : ∀ {b : Addr} {o : Obj}, s1.heap.get? b = some o → H b = none → (hidT s1.heap H).get? b = some o := fun e n => hidT_get e n
  have dictFree : ∀ {b : Addr} {o : Obj} {es : Array DictEntry} {ep : Nat}, s1.heap.get? b = some o → o.data = .dict es ep → H b = none := fun {b o es ep} e dd => by
    cases q : H b with
    | none => rfl
    | some u =>
      obtain ⟨rfl, _⟩ := hfz b u q
      rw [ha] at e
      cases e
      cases dd
  have nsB : ∀ {b : Addr} {m : Str → Option Value}, s1.heap.Ns b m → (hidT s1.heap H).Ns b m := fun {b m} ⟨o, es, ep, e, dd, z⟩ => ⟨o, es, ep, inB e (dictFree e dd), dd, z⟩
  have kB : K.In (hidT s1.heap H) := fun b o e => inB (kin b o e) (by
    cases q : H b with
    | none => rfl
    | some u =>
      obtain ⟨rfl, _⟩ := hfz b u q
      rw [hKn (by rw [q]; exact fun z => nomatch z)] at e
      cases e)
  have md : Mod K mg (hidT s1.heap H) := ⟨kB, nsB gl, ⟨mb, nsB bl, bb⟩, let ⟨mc, h1, h2⟩ := nol; ⟨mc, nsB h1, h2⟩⟩
  have noF : ∀ b : Addr, b ∉ frs ([] : List Env) := fun b z => absurd (show b ∈ ([] : List Addr) from z) (by simp)
  have e0 : Env0 P w K mg (hidT s1.heap H) callerA [] s1 H := ⟨rfl, md, fun b o e => of_hidT e, Nat.le_of_eq (hidT_size _ _), trivial, fun b z => absurd z (noF b), hHok, .of_eq hg⟩
  refine codeAny_mono ((F _ kB (nsB gl)).runG callerA [] s1 H ⟨[.ref a], []⟩ [.ref a] [.ref a] _ (fun _ _ _ => False) rfl hr e0 (hbind s1 (.ref a)) (.cons rfl .nil) (law_sp hS hl)) fun res s' h => ?_
  match res, h with
  | .error e, h => exact h.elim
  | .ok .next, h => exact False.elim h
  | .ok .brk, h => exact False.elim h
  | .ok .cont, h => exact False.elim h
  | .ok (.ret u), ⟨v, H', os, bare, un, hok', rv, q⟩ =>
    cases (show v = .bl true from q)
    obtain rfl : u = Value.bool true := rv
    refine ⟨rfl, OldK.of_keep fun b o e => ?_, os, bare⟩
    cases q : H b with
    | none => exact un.keep b o e q (noF b) (by simp)
    | some u =>
      obtain ⟨_, ob, ys, rfl⟩ := hfz b u q
      obtain ⟨e1, _⟩ := hHok b _ q
      obtain ⟨e2, _⟩ := hok' b _ (un.frzs b ob _ q)
      rw [e] at e1
      cases e1
      exact e2
theorem walkG {l : PySem.W.OpenLaw} {k : Nat} {q : Program} {loose : List Str} {XP : (Str → Option Value) → Heap → Prop} {YP : World → Heap → Prop} {d : DefRec} {K : Params → Fg} {x : Str} (hn : l.most = some 63) (hdf : d.params.defaults = []) (hr : Room k callerA)
    (hY : ∀ (w : World) (h : Heap), YP w h → (K w.params).In h)
    (F : ∀ (w : World) (mg : Str → Option Value) (fa : Addr) (h : Heap), (K w.params).In h → h.Ns mainGlobals mg → mg d.name = some (.ref fa) → ∃ fd : FuncData, (∀ (s : Shared) (u : Value), BindsTo s fd ⟨[u], []⟩ [(x, u)]) ∧
      ∀ base : Heap, (K w.params).In base → base.Ns mainGlobals mg → FnG l.prog w (K w.params) mg base CX0 k fa fd [x] (spB (K w.params) 1 phLaw)) :
    PySem.W.WalkO q loose XP YP l.row.toRowW d [] (fun f vs => PySem.call f vs) :=
  Att.attach_call hn hdf fun w s0 s1 mg mb fa o pm cd doc a vs ns G Y ho hd hcd hmg hobj hints hlen hg =>
    let ⟨fd, hb, hF⟩ := F w mg fa _ (hY w _ Y) G.T.g hmg
    lawRun (hY w _ Y) G.T.g G.T.b G.T.builtins G.T.nolimit hg hobj hints hlen hr hF hb
end BV

set_option maxHeartbeats 4000000
/-! BV, part i: subscripts, slices, built-ins, methods of lists. -/
namespace BV
open PySem L2

section
variable {X : Cx} {K : Fg}
theorem atI_rep {F : Hp} {vs : List V} {ds : List PyData} {i : Int} {d : PyData} (h : RepA K F vs ds) (e : atI ds i = some d) : ∃ v, atI vs i = some v ∧ Rep K F v d := by
  unfold atI at e ⊢
  rw [h.length]
  cases z : ixN ds.length i with
  | none =>
    rw [z] at e
    cases e
  | some j =>
    rw [z] at e
    obtain ⟨v, e1, r⟩ := h.get (i := j) (d := d) (by simpa using e)
    exact ⟨v, by simpa using e1, r⟩
/-- x[i] of a list, a tuple, a text -/
def bIx : B2 := fun s t e P => asInt t fun i => match itemsL e s with
  | some ds => (match atI ds i with
    | some d => P (.fz d) e
    | none => False)
  | none => match s with
    | .fz (.tuple ds) => (match atI ds i with
      | some d => P (.fz d) e
      | none => False)
    | .fz (.str z) => z.length ≤ sizeLine ∧ (match atI z.cps.toList i with
      | some c => P (.fz (.str ⟨#[c]⟩)) e
      | none => False)
    | _ => False
theorem s2_ix : S2 K (rIx K) bIx := fun F0 B F H T τ env σ s t x y Q P r h w => by
  have h0 := asInt_of h
  clear h
  obtain ⟨i, rfl, h⟩ := h0
  have hy := int_of r.top_fz
  subst hy
  split at h
  · rename_i ds e
    split at h
    · rename_i d e2
      obtain ⟨a, vs, rfl, hq, hr⟩ := R.itemsL r.pop e
      obtain ⟨v, e3, rv⟩ := atI_rep hr e2
      exact .inl ⟨a, vs, i, v, rfl, rfl, hq, e3, w.fz r.pop.pop rv h⟩
    · exact h.elim
  · split at h
    · rename_i ds _
      split at h
      · rename_i d e2
        obtain ⟨a, vs, rfl, hq, _, hr⟩ := R.itemsT (ds := ds) r.pop rfl
        obtain ⟨v, e3, rv⟩ := atI_rep hr e2
        exact .inr (.inl ⟨a, vs, i, v, rfl, rfl, hq, e3, w.fz r.pop.pop rv h⟩)
      · exact h.elim
    · rename_i z _
      obtain ⟨hz, h⟩ := h
      split at h
      · rename_i c e2
        have hx := str_of r.pop.top_fz
        subst hx
        exact .inr (.inr ⟨z, i, c, rfl, rfl, hz, e2, w.fz r.pop.pop (.str _) h⟩)
      · exact h.elim
    · exact h.elim
theorem be_ix {x y : Expr} {pos : Pos} {a b : BX} (ha : BE X x a) (hb : BE X y b) (hs : PlainIx y := by exact fun _ _ => rfl) : BE X (.Subscript x y pos) (bOp bIx a b) := be_of (pe_ix ix_seq ha hb hs) (se_op s2_ix (se_B a) (se_B b))

/-! slices -/
abbrev BO := BEnv → (Option Int → BEnv → Prop) → Prop
def SO (K : Fg) (to : TO) (b : BO) : Prop := ∀ F0 B F H T τ env σ Q P, R K F0 B F H T τ env σ → b env P → (∀ o F' H' env', P o env' → R K F0 B F' H' T τ env' σ → Q o H') → to σ H Q
def toB (K : Fg) (b : BO) : TO := fun σ H Q => ∃ F0 B F T τ env P, R K F0 B F H T τ env σ ∧ b env P ∧ ∀ o F' H' env', P o env' → R K F0 B F' H' T τ env' σ → Q o H'
theorem so_B (b : BO) : SO K (toB K b) b := fun F0 B F H T τ env σ Q P r h w => ⟨F0, B, F, T, τ, env, P, r, h, w⟩
def BOp (X : Cx) (e : Option Expr) (b : BO) : Prop := PO X e (toB X.K b)
def oNone : BO := fun e P => P none e
def oSome (a : BX) : BO := fun e P => a e fun s e1 => asInt s fun i => P (some i) e1
theorem bo_of {e : Option Expr} {t : TO} {b : BO} (h : PO X e t) (hs : SO X.K t b) : BOp X e b := ⟨fun pins s σ H Q I ⟨F0, B, F, T, τ, env, P, r, p, w⟩ => h.run pins s σ H Q I (hs F0 B F H T τ env σ Q P r p w)⟩
theorem bo_none : BOp X none oNone := bo_of po_none fun F0 B F H T τ env σ Q P r h w => w _ _ _ _ h r
theorem bo_some {x : Expr} {a : BX} (ha : BE X x a) : BOp X (some x) (oSome a) := bo_of (po_some ha) fun F0 B F H T τ env σ Q P r h w => se_B a F0 B F H T τ env σ _ _ r h fun s v F1 H1 e1 h1 r1 => by
  obtain ⟨i, rfl, p⟩ := asInt_of h1
  have hv := int_of r1.top_fz
  subst hv
  exact ⟨i, rfl, w _ _ _ _ p r1.pop⟩
/-- the items of xs[lo:hi] -/
def cutD (ds : List PyData) (lo hi : Option Int) : List PyData := (ds.drop (HT.sIx ds.length 0 lo)).take (HT.sIx ds.length ds.length hi - HT.sIx ds.length 0 lo)
theorem cut_rep {F : Hp} {vs : List V} {ds : List PyData} {lo hi : Option Int} (h : RepA K F vs ds) : RepA K F (cutV vs lo hi) (cutD ds lo hi) := by
  unfold cutV cutD
  rw [h.length]
  exact (h.drop _).take _
theorem SlR.or' {r r' : V → Option Int → Option Int → Hp → VK → Prop} (h : SlR X r) (h' : SlR X r') : SlR X (fun x lo hi H Q => r x lo hi H Q ∨ r' x lo hi H Q) := SlR.or h h'
def bSl (a : BX) (l u : BO) : BX := fun e P => a e fun s e1 => l e1 fun lo e2 => u e2 fun hi e3 => match itemsL e3 s with
  | some ds => P (.ow (.lst (cutD ds lo hi))) e3
  | none => match s with
    | .fz (.tuple ds) => P (.fz (.tuple (cutD ds lo hi))) e3
    | .fz (.str z) => z.length ≤ sizeLine ∧ P (.fz (.str (cutS z lo hi))) e3
    | _ => False
theorem cut_all {α : Type} {xs : List α} {lo hi : Option Int} (h : HT.sIx xs.length 0 lo = 0 ∧ HT.sIx xs.length xs.length hi = xs.length) : (xs.drop (HT.sIx xs.length 0 lo)).take (HT.sIx xs.length xs.length hi - HT.sIx xs.length 0 lo) = xs := by
  rw [h.1, h.2]
  simp
theorem be_sl {x : Expr} {l u : Option Expr} {p2 pos : Pos} {a : BX} {bl bu : BO} (ha : BE X x a) (hl : BOp X l bl) (hu : BOp X u bu) : BE X (.Subscript x (.Slice l u none p2) pos) (bSl a bl bu) :=
  be_of (pe_slice (SlR.or' (SlR.or' sl_list sl_tupA) sl_str) ha hl hu) fun F0 B F H T τ env σ Q P r h w => se_B a F0 B F H T τ env σ _ _ r h fun s v F1 H1 e1 h1 r1 =>
    so_B bl F0 B F1 H1 (T ++ [s]) (τ ++ [v]) e1 σ _ _ r1 h1 fun lo F2 H2 e2 h2 r2 => so_B bu F0 B F2 H2 (T ++ [s]) (τ ++ [v]) e2 σ _ _ r2 h2 fun hi F3 H3 e3 h3 r3 => by
      split at h3
      · rename_i ds e
        obtain ⟨p, vs, rfl, hq, hr⟩ := R.itemsL r3 e
        exact .inl (.inl ⟨p, vs, rfl, hq, fun q hq => w _ _ _ _ _ h3 (r3.pop.newL hq (cut_rep hr))⟩)
      · split at h3
        · rename_i ds _
          obtain ⟨p, vs, rfl, hq, hf, hr⟩ := R.itemsT (ds := ds) r3 rfl
          refine .inl (.inr ⟨p, vs, rfl, hq, fun hw => ?_, fun _ q hq => w _ _ _ _ _ h3 (r3.pop.newT hq (cut_rep hr))⟩)
          have hw' : HT.sIx ds.length 0 lo = 0 ∧ HT.sIx ds.length ds.length hi = ds.length := by
            rw [hr.length] at hw
            exact hw
          refine w.fz r3.pop (.tup hf hr) ?_
          have e : cutD ds lo hi = ds := cut_all hw'
          rw [e] at h3
          exact h3
        · rename_i z _
          have hv := str_of r3.top_fz
          subst hv
          exact .inr ⟨z, rfl, h3.1, w.fz r3.pop (.str _) h3.2⟩
        · exact h3.elim

/-! calls of built-ins -/
def bCB (r : BL) (a : BA) : BX := fun e P => a e fun ss e1 => r ss e1 P
theorem se_cb {r : List V → Hp → VK → Prop} {rb : BL} {ta : TA} {a : BA} (hr : SL K r rb) (ha : SA K ta a) : SE K (tCB r ta) (bCB rb a) := fun F0 B F H T τ env σ Q P q h w =>
  ha F0 B F H T τ env σ _ _ q h fun ss vs F1 H1 e1 h1 hl q1 => hr F0 B F1 H1 T τ e1 σ ss vs Q P hl q1 h1 w
structure CallQ (X : Cx) (f : Value) (rb : BL) : Prop where
  ex : ∃ r, CallR X f r ∧ SL X.K r rb
section
variable {x : Str} {p pos : Pos} {e : Expr} {es : List Expr} {id : String} {rb : BL} {a : BA}
theorem be_cb (c : CallQ X (.builtin id) rb) (hg : Gl X x) (hm : X.mg x = none) (hv : bootBuiltins x = some (.builtin id)) (ha : BAs X (e :: es) a) (hn : x ≠ "__name__" := by decide) (hdb : (x == ("__debug__" : Str)) = false := by decide)
    (he : starEach (e :: es) X.env = (false, eval e X.env) :: starEach es X.env := by rfl) (hpl : (backTo pos (starEach es X.env)).any (·.1) = false := by rfl) : BE X (.Call (.Name x p) (e :: es) [] pos) (bCB rb a) :=
  let ⟨_, h1, h2⟩ := c.ex
  be_of (pe_callB h1 hg hm hv ha hn hdb he hpl) (se_cb h2 (sa_B a))
theorem be_ct (c : CallQ X (.type id) rb) (hg : Gl X x) (hm : X.mg x = none) (hv : bootBuiltins x = some (.type id)) (ha : BAs X (e :: es) a) (hn : x ≠ "__name__" := by decide) (hdb : (x == ("__debug__" : Str)) = false := by decide)
    (he : starEach (e :: es) X.env = (false, eval e X.env) :: starEach es X.env := by rfl) (hpl : (backTo pos (starEach es X.env)).any (·.1) = false := by rfl) : BE X (.Call (.Name x p) (e :: es) [] pos) (bCB rb a) :=
  let ⟨_, h1, h2⟩ := c.ex
  be_of (pe_callTy h1 hg hm hv ha hn hdb he hpl) (se_cb h2 (sa_B a))
end
/-- one argument -/
def one1 (b : B1) : BL := fun ss e P => match ss with
  | [s] => b s e P
  | _ => False
theorem sl_one {r : List V → Hp → VK → Prop} {b : B1} (h : ∀ F0 B F H T τ env σ s v Q P, R K F0 B F H (T ++ [s]) (τ ++ [v]) env σ → b s env P → Wx K F0 B T τ σ P Q → r [v] H Q) : SL K r (one1 b) := fun F0 B F H T τ env σ ss vs Q P hl r q w => by
  unfold one1 at q
  split at q
  · match vs, hl with
    | [v], _ => exact h F0 B F H T τ env σ _ v Q P r q w
  · exact q.elim
def lenD : PyData → Option Nat
  | .list ds => some ds.length
  | .tuple ds => some ds.length
  | .dict ds => some ds.length
  | .str z => if z.length ≤ sizeLine then some z.length else none
  | _ => none
def b1Len : B1 := fun s e P => asView s e fun d => match lenD d with
  | some n => P (.fz (.int n)) e
  | none => False
theorem cq_len : CallQ X (.builtin "len") (one1 b1Len) := ⟨_, CallR.or (CallR.or call_len call_lenD) call_len_dT, sl_one fun F0 B F H T τ env σ s v Q P r h w => by
  obtain ⟨d, e, h⟩ := asView_of h
  have rd := R.view r e
  cases rd with
  | lst hq ha =>
    rename_i p vs ds
    refine .inl (.inl ⟨_, vs.length, rfl, .inl ⟨vs, hq, rfl⟩, w.fz r.pop (.int _) ?_⟩)
    rw [ha.length]
    exact h
  | tup hq ha =>
    rename_i p vs ds
    refine .inl (.inl ⟨_, vs.length, rfl, .inr ⟨vs, hq, rfl⟩, w.fz r.pop (.int _) ?_⟩)
    rw [ha.length]
    exact h
  | str z =>
    have h' : (match (if z.length ≤ sizeLine then some z.length else none) with | some n => P (.fz (.int (n : Nat))) env | none => False) := h
    by_cases hz : z.length ≤ sizeLine
    · rw [if_pos hz] at h'
      exact .inl (.inl ⟨_, z.length, rfl, ⟨hz, rfl⟩, w.fz r.pop (.int _) h'⟩)
    · rw [if_neg hz] at h'
      exact h'.elim
  | dK hq ha ek =>
    rename_i p kvs ds kds
    refine .inl (.inr ⟨p, kvs, rfl, hq, w.fz r.pop (.int _) ?_⟩)
    have hl := ha.length
    have e2 : kds.length = kvs.length := by
      rw [ek]
      simp at hl ⊢
      omega
    have h' : P (.fz (.int (kds.length : Nat))) env := h
    rw [e2] at h'
    exact h'
  | dT hq ha ek =>
    rename_i p kvs ds kds
    refine .inr ⟨p, kvs, rfl, hq, w.fz r.pop (.int _) ?_⟩
    have hl := ha.length
    have e2 : kds.length = kvs.length := by
      rw [ek]
      simp at hl ⊢
      omega
    have h' : P (.fz (.int (kds.length : Nat))) env := h
    rw [e2] at h'
    exact h'
  | _ => exact h.elim⟩
/-- list(x), tuple(x) of a list or a tuple -/
def itemsOf (e : BEnv) (s : Sl) : Option (List PyData) := match itemsL e s with
  | some ds => some ds
  | none => itemsT s
def b1List : B1 := fun s e P => match itemsOf e s with
  | some ds => P (.ow (.lst ds)) e
  | none => False
theorem R.itemsOf {F0 B F H : Hp} {T : List Sl} {τ : List V} {env : BEnv} {σ : L2.St} {s : Sl} {v : V} {ds : List PyData} (r : R K F0 B F H (T ++ [s]) (τ ++ [v]) env σ) (h : itemsOf env s = some ds) : ∃ a vs, v = .ref a ∧ (SqL K H a vs ∨ (SqT K H a vs ∧ s = .fz (.tuple ds) ∧ SqT K F a vs)) ∧ RepA K F vs ds := by
  unfold BV.itemsOf at h
  split at h
  · rename_i ds' e
    cases h
    obtain ⟨a, vs, e1, e2, e3⟩ := R.itemsL r e
    exact ⟨a, vs, e1, .inl e2, e3⟩
  · obtain ⟨a, vs, e1, e2, e3, e4⟩ := R.itemsT r h
    refine ⟨a, vs, e1, .inr ⟨e2, ?_, e3⟩, e4⟩
    unfold BV.itemsT at h
    split at h
    · cases h
      rfl
    · cases h
theorem cq_list : CallQ X (.type "list") (one1 b1List) := ⟨_, call_list_of, sl_one fun F0 B F H T τ env σ s v Q P r h w => by
  unfold b1List at h
  split at h
  · rename_i ds e
    obtain ⟨a, vs, rfl, hq, hr⟩ := R.itemsOf r e
    exact ⟨a, vs, rfl, hq.imp id fun z => z.1, fun l hl => w _ _ _ _ _ h (r.pop.newL hl hr)⟩
  · exact h.elim⟩
def b1Tuple : B1 := fun s e P => match itemsOf e s with
  | some ds => P (.fz (.tuple ds)) e
  | none => False
theorem cq_tuple : CallQ X (.type "tuple") (one1 b1Tuple) := ⟨_, call_tuple_of, sl_one fun F0 B F H T τ env σ s v Q P r h w => by
  unfold b1Tuple at h
  split at h
  · rename_i ds e
    obtain ⟨a, vs, rfl, hq, hr⟩ := R.itemsOf r e
    rcases hq with hq | ⟨hq, hs, hf⟩
    · exact ⟨a, vs, rfl, .inl ⟨hq, fun l hl => w _ _ _ _ _ h (r.pop.newT hl hr)⟩⟩
    · exact ⟨a, vs, rfl, .inr ⟨hq, w.fz r.pop (.tup hf hr) h⟩⟩
  · exact h.elim⟩
def b1Int : B1 := fun s e P => match s with
  | .fz (.int i) => P (.fz (.int i)) e
  | .fz (.bool b) => P (.fz (.int (if b then 1 else 0))) e
  | _ => False
theorem cq_int : CallQ X (.type "int") (one1 b1Int) := ⟨_, call_int1, sl_one fun F0 B F H T τ env σ s v Q P r h w => by
  unfold b1Int at h
  split at h
  · rename_i i
    cases int_of r.top_fz
    exact .inl ⟨i, rfl, w.fz r.pop (.int _) h⟩
  · rename_i b
    cases bool_of r.top_fz
    exact .inr ⟨b, rfl, w.fz r.pop (.int _) h⟩
  · exact h.elim⟩
def b1Abs : B1 := fun s e P => asInt s fun i => P (.fz (.int (if i < 0 then -i else i))) e
theorem cq_abs : CallQ X (.builtin "abs") (one1 b1Abs) := ⟨_, call_abs, sl_one fun F0 B F H T τ env σ s v Q P r h w => by
  obtain ⟨i, rfl, p⟩ := asInt_of h
  cases int_of r.top_fz
  exact ⟨i, rfl, w.fz r.pop (.int _) p⟩⟩
def b1Str : B1 := fun s e P => asInt s fun i => i.natAbs.log2 < 1920 ∧ P (.fz (.str (toString i))) e
theorem cq_str : CallQ X (.type "str") (one1 b1Str) := ⟨_, call_str_int, sl_one fun F0 B F H T τ env σ s v Q P r h w => by
  obtain ⟨i, rfl, hi, p⟩ := asInt_of h
  cases int_of r.top_fz
  exact ⟨i, rfl, hi, w.fz r.pop (.str _) p⟩⟩

/-! isinstance -/
def tyN : PyData → String
  | .none => "NoneType"
  | .bool _ => "bool"
  | .int _ => "int"
  | .str _ => "str"
  | .list _ => "list"
  | .tuple _ => "tuple"
  | .dict _ => "dict"
theorem Rep.ty {H : Hp} {v : V} {d : PyData} (h : Rep K H v d) : TyX K H v (.type (tyN d)) := by
  cases h with
  | non => exact .base .non
  | bl b => exact .base (.bl b)
  | int i => exact .base (.int i)
  | str z => exact .base (.str z)
  | lst q _ =>
    rcases q with (q | ⟨o, q⟩) | ⟨o, its, n, e, c, _⟩
    · exact .base (.lst q)
    · exact .base (.frz q)
    · exact .kList e c
  | tup q _ =>
    rcases q with (q | ⟨o, q⟩) | ⟨o, its, n, e, c, _⟩
    · exact .base (.tup q)
    · exact .fTuple q
    · exact .kTuple e c
  | dK q _ _ => exact .base (.dK q)
  | dT q _ _ => exact .base (.dT q)
/-- which of these classes a value is of -/
def isD (T : String) (d : PyData) : Bool := match T, d with
  | "int", .int _ => true
  | "int", .bool _ => true
  | "bool", .bool _ => true
  | "str", .str _ => true
  | "list", .list _ => true
  | "tuple", .tuple _ => true
  | "dict", .dict _ => true
  | _, _ => false
def someT : List String := ["int", "bool", "str", "list", "tuple", "dict"]
theorem isD_ok : ∀ T ∈ someT, ∀ t ∈ ["NoneType", "bool", "int", "str", "list", "tuple", "dict"], kitB t T = some (match t with
    | "NoneType" => isD T .none | "bool" => isD T (.bool true) | "int" => isD T (.int 0) | "str" => isD T (.str ⟨#[]⟩) | "list" => isD T (.list []) | "tuple" => isD T (.tuple []) | "dict" => isD T (.dict []) | _ => false) := by decide +kernel
theorem isD_kit {T : String} (hT : T ∈ someT) (d : PyData) : kitB (tyN d) T = some (isD T d) := by
  cases d with
  | none => exact isD_ok T hT _ (by decide)
  | bool b =>
    refine (isD_ok T hT "bool" (by decide)).trans ?_
    simp only [someT, List.mem_cons, List.not_mem_nil, or_false] at hT
    rcases hT with rfl | rfl | rfl | rfl | rfl | rfl <;> rfl
  | int i =>
    refine (isD_ok T hT "int" (by decide)).trans ?_
    simp only [someT, List.mem_cons, List.not_mem_nil, or_false] at hT
    rcases hT with rfl | rfl | rfl | rfl | rfl | rfl <;> rfl
  | str i =>
    refine (isD_ok T hT "str" (by decide)).trans ?_
    simp only [someT, List.mem_cons, List.not_mem_nil, or_false] at hT
    rcases hT with rfl | rfl | rfl | rfl | rfl | rfl <;> rfl
  | list i =>
    refine (isD_ok T hT "list" (by decide)).trans ?_
    simp only [someT, List.mem_cons, List.not_mem_nil, or_false] at hT
    rcases hT with rfl | rfl | rfl | rfl | rfl | rfl <;> rfl
  | tuple i =>
    refine (isD_ok T hT "tuple" (by decide)).trans ?_
    simp only [someT, List.mem_cons, List.not_mem_nil, or_false] at hT
    rcases hT with rfl | rfl | rfl | rfl | rfl | rfl <;> rfl
  | dict i =>
    refine (isD_ok T hT "dict" (by decide)).trans ?_
    simp only [someT, List.mem_cons, List.not_mem_nil, or_false] at hT
    rcases hT with rfl | rfl | rfl | rfl | rfl | rfl <;> rfl
def bIsi (T : String) (a : BX) : BX := fun e P => a e fun s e1 => asView s e1 fun d => P (.fz (.bool (isD T d))) e1
theorem be_isi (T : String) {x : Expr} {y : Str} {p p2 pos : Pos} {a : BX} (hT : T ∈ someT) (hg : Gl X "isinstance") (hm : X.mg "isinstance" = none) (hy : Gl X y) (hmy : X.mg y = none) (hb : bootBuiltins y = some (.type T)) (ha : BE X x a) (hn : y ≠ "__name__" := by decide) (hdb : (y == ("__debug__" : Str)) = false := by decide)
    (he : starEach [x, .Name y p2] X.env = (false, eval x X.env) :: starEach [.Name y p2] X.env := by rfl) (he2 : starEach [.Name y p2] X.env = (false, eval (.Name y p2) X.env) :: starEach [] X.env := by rfl) (hpl : (backTo pos (starEach [.Name y p2] X.env)).any (·.1) = false := by rfl) : BE X (.Call (.Name "isinstance" p) [x, .Name y p2] [] pos) (bIsi T a) :=
  be_of (pe_callB call_isi hg hm PyProof.Rows.boot_isinstance (pa_cons ha (pa_cons (pe_bltn (v := .ty T) hy hmy hb rfl hn hdb) pa_nil he2) he) (by decide) (by decide) he hpl) fun F0 B F H T' τ env σ Q P r h w =>
    se_B a F0 B F H T' τ env σ _ _ r h fun s v F1 H1 e1 h1 r1 => by
      obtain ⟨d, e, p⟩ := asView_of h1
      have rd := R.view r1 e
      exact ⟨v, .ty T, _, _, isD T d, rfl, .ty T, rd.ty, kit_ty (isD_kit hT d), w.fz r1.pop (.bl _) p⟩
end
end BV

set_option maxHeartbeats 400000
/-! BV, part j: comprehensions. -/
namespace BV
open PySem L2

section
variable {K : Fg} {F0 B F G H H' : Hp} {T S : List Sl} {τ ν vs : List V} {env : List Sl} {σ : L2.St} {c : Col} {v w : V} {d : PyData} {s : Sl} {o : Ow} {i j : Nat}
/-- a list that a temporary owns is changed -/
theorem R.lstT {xs : List PyData} (r : R K F0 B F H (T ++ .ow (.lst xs) :: S) (τ ++ v :: ν) env σ) (hl : S.length = ν.length) : ∃ a ws, v = .ref a ∧ H a = some (.lst ws) ∧ RepA K F ws xs ∧
    ∀ ws' ys, RepA K F ws' ys → R K F0 B F (upd H a (.lst ws')) (T ++ .ow (.lst ys) :: S) (τ ++ v :: ν) env σ := by
  have hT := r.lenT hl
  obtain ⟨c, q⟩ := r
  obtain ⟨a, ev, ca, ws, ha, hr⟩ := q.tmp T.length _ v mid_at (by rw [hT]; exact mid_at)
  refine ⟨a, ws, ev, ha, hr, fun ws' ys hw => ⟨c, ⟨q.f0, fun b u e => ?_, fun b u e => ?_, q.nw, by simpa using q.len, q.le, fun b hb => ?_, fun j s' v' h1 h2 => ?_, fun k s' h1 => ?_⟩⟩⟩
  · rw [upd_ne]
    · exact q.fh b u e
    · intro z
      subst z
      rw [(q.col b (by rw [ca]; exact fun z => nomatch z)).1] at e
      cases e
  · rw [upd_ne]
    · exact q.bh b u e
    · intro z
      subst z
      rw [(q.col b (by rw [ca]; exact fun z => nomatch z)).2.1] at e
      cases e
  · obtain ⟨e1, e2, e3⟩ := q.col b hb
    refine ⟨e1, e2, ?_⟩
    by_cases z : b = a
    · subst z
      rw [upd_same]
      exact fun z => nomatch z
    · rw [upd_ne z]
      exact e3
  · rcases get_mid h1 with ⟨hj, z⟩ | ⟨rfl, rfl⟩
    · refine (q.tmp j s' v' (z _) h2).mono (Sub.refl _) (fun x hx => upd_ne fun z => ?_) fun _ z => z
      subst z
      rw [ca] at hx
      injection hx with hx
      injection hx with hx
      exact hj hx.symm
    · rw [hT, mid_at] at h2
      cases h2
      exact ⟨a, ev, ca, ws', upd_same, hw⟩
  · refine (q.slt k s' h1).mono (Sub.refl _) (fun x hx => upd_ne fun z => ?_) fun _ z => z
    subst z
    rw [ca] at hx
    injection hx with hx
    cases hx

/-- temporaries without what they say of names -/
def unal : Sl → Sl
  | .al _ => .un
  | s => s
def deal (T : List Sl) : List Sl := T.map unal
theorem deal_len : (deal T).length = T.length := List.length_map ..
theorem deal_at (h : (deal T)[j]? = some s) : ∃ y, T[j]? = some y ∧ s = unal y := by
  unfold deal at h
  rw [List.getElem?_map] at h
  cases z : T[j]? with
  | none =>
    rw [z] at h
    cases h
  | some y =>
    rw [z] at h
    exact ⟨y, rfl, (Option.some.inj h).symm⟩
theorem deal_of (h : T[j]? = some s) : (deal T)[j]? = some (unal s) := by
  unfold deal
  rw [List.getElem?_map, h]
  rfl
theorem deal_plain : Plain (deal T) := fun j i e => by
  obtain ⟨y, _, e2⟩ := deal_at e
  cases y <;> cases e2
theorem Rc.deal (q : Rc K F0 B F H T τ env σ c) : Rc K F0 B F H (deal T) τ env σ c :=
  { q with
    len := by rw [deal_len]; exact q.len
    tmp := fun j s v h1 h2 => by
      obtain ⟨y, e1, e2⟩ := deal_at h1
      subst e2
      have w := q.tmp j y v e1 h2
      cases y with
      | al k => trivial
      | un => exact w
      | fz d => exact w
      | ow o => exact w
      | cst x => exact w }
def wipeE (e : BEnv) : List Nat → BEnv
  | [] => e
  | v :: vs => (wipeE e vs).set v .un
theorem R.wiped (hn : ∀ (j i : Nat), T[j]? ≠ some (Sl.al i)) (r : R K F0 B F H T τ env σ) : ∀ vs : List Nat, R K F0 B F H T τ (wipeE env vs) (L2.wipe σ vs)
  | [] => r
  | v :: vs => R.wipe1 (R.wiped hn r vs) fun j => hn j v
/-- the slots as they were ahead: what is known of the block's own names is lost -/
theorem R.unwipe {vs : List Nat} (hn : ∀ (j i : Nat), T[j]? ≠ some (Sl.al i)) (r : R K F0 B F H T τ env (wipe σ vs)) (hu : ∀ i ∈ vs, ∀ s, env[i]? = some s → s = .un) (hle : env.length = σ.length) : R K F0 B F H T τ env σ := by
  obtain ⟨c, q⟩ := r
  have wg : ∀ i, i ∉ vs → (wipe σ vs)[i]? = σ[i]? := by
    intro i hi
    clear q hu hn
    induction vs with
    | nil => rfl
    | cons v vs ih =>
      have h1 : v ≠ i := fun e => hi (e ▸ List.mem_cons_self ..)
      show ((wipe σ vs).set v none)[i]? = σ[i]?
      rw [List.getElem?_set_ne h1]
      exact ih fun h => hi (List.mem_cons_of_mem _ h)
  refine ⟨c, { q with le := hle, tmp := fun j s v h1 h2 => ?_, slt := fun i s h1 => ?_ }⟩
  · exact tmp_any (fun i e => hn j i (e ▸ h1)) (q.tmp j s v h1 h2)
  · by_cases hi : i ∈ vs
    · cases hu i hi s h1
      trivial
    · have w := q.slt i s h1
      cases s with
      | un => trivial
      | fz d =>
        obtain ⟨v, e, z⟩ := w
        exact ⟨v, by rw [← wg i hi]; exact e, z⟩
      | ow o =>
        obtain ⟨a, e, z⟩ := w
        exact ⟨a, by rw [← wg i hi]; exact e, z⟩
      | al _ => exact w.elim
      | cst _ => exact w.elim
theorem wipeE_un : ∀ {vs : List Nat} {e : BEnv} {i : Nat} {s : Sl}, i ∈ vs → (wipeE e vs)[i]? = some s → s = .un
  | v :: vs, e, i, s, hi, h => by
    have h' : ((wipeE e vs).set v .un)[i]? = some s := h
    by_cases hv : v = i
    · subst hv
      by_cases hl : v < (wipeE e vs).length
      · rw [List.getElem?_set_self hl] at h'
        cases h'
        rfl
      · rw [List.getElem?_eq_none (by simpa using hl)] at h'
        cases h'
    · rw [List.getElem?_set_ne hv] at h'
      exact wipeE_un ((List.mem_cons.mp hi).resolve_left fun z => hv z.symm) h'
theorem wipeE_len : ∀ {vs : List Nat} {e : BEnv}, (wipeE e vs).length = e.length
  | [], _ => rfl
  | v :: vs, e => by
    show ((wipeE e vs).set v .un).length = _
    rw [List.length_set, wipeE_len]
/-- what the temporaries say of names is said again -/
theorem R.redeal {F' H' : Hp} {env' : BEnv} (r0 : R K F0 B F H T τ env σ) (r : R K F0 B F' H' (deal T ++ S) (τ ++ ν) env' σ) : R K F0 B F' H' (T ++ S) (τ ++ ν) env' σ := by
  obtain ⟨c0, q0⟩ := r0
  obtain ⟨c, q⟩ := r
  refine ⟨c, { q with len := by have := q.len; rw [List.length_append, deal_len] at this; rw [List.length_append]; exact this, tmp := fun j s v h1 h2 => ?_ }⟩
  by_cases hj : j < T.length
  · have h1' : T[j]? = some s := by
      rw [List.getElem?_append_left hj] at h1
      exact h1
    have h2' : τ[j]? = some v := by
      rw [List.getElem?_append_left (by rw [← q0.len]; exact hj)] at h2
      exact h2
    have ho := q0.tmp j s v h1' h2'
    have hn := q.tmp j (unal s) v (by rw [List.getElem?_append_left (by rw [deal_len]; exact hj)]; exact deal_of h1') h2
    cases s with
    | al k => exact ho
    | un => exact hn
    | fz d => exact hn
    | ow o => exact hn
    | cst x => exact hn
  · refine q.tmp j s v ?_ h2
    rw [List.getElem?_append_right (by rw [deal_len]; omega), deal_len]
    rw [List.getElem?_append_right (by omega)] at h1
    exact h1
end

/-! a block's own target -/
abbrev BD := PyData → BEnv → (BEnv → Prop) → Prop
def SD (K : Fg) (vs : List Nat) (g : TG) (b : BD) : Prop := ∀ F0 B F H T τ env σ d v Q P, (∀ (j i : Nat), T[j]? ≠ some (Sl.al i)) → R K F0 B F H (T ++ [.fz d]) (τ ++ [v]) env σ → b d env P → (∀ F' H' env' σ', P env' → wipe σ' vs = wipe σ vs → R K F0 B F' H' T τ env' σ' → Q σ' H') → g v σ H Q
theorem wipe_set {σ : L2.St} {i : Nat} {x : Option V} : ∀ {vs : List Nat}, i ∈ vs → wipe (σ.set i x) vs = wipe σ vs
  | v :: vs, h => by
    show (wipe (σ.set i x) vs).set v none = (wipe σ vs).set v none
    by_cases hv : i ∈ vs
    · rw [wipe_set hv]
    · have e : v = i := by
        rcases List.mem_cons.mp h with e | e
        · exact e.symm
        · exact absurd e hv
      subst e
      have : ∀ vs : List Nat, wipe (σ.set v x) vs = (wipe σ vs).set v x ∨ v ∈ vs := by
        intro us
        induction us with
        | nil => exact .inl rfl
        | cons u us ih =>
          by_cases hu : u = v
          · exact .inr (hu ▸ List.mem_cons_self ..)
          · rcases ih with ih | ih
            · refine .inl ?_
              show (wipe (σ.set v x) us).set u none = ((wipe σ us).set u none).set v x
              rw [ih, List.set_comm _ _ (Ne.symm hu)]
            · exact .inr (List.mem_cons_of_mem _ ih)
      rcases this vs with h1 | h1
      · rw [h1, List.set_set]
      · exact absurd h1 hv
def dName (i : Nat) : BD := fun d e P => P (e.set i (.fz d))
theorem sd_name {K : Fg} {vs : List Nat} {i : Nat} (hi : i ∈ vs) : SD K vs (gName i) (dName i) := fun F0 B F H T τ env σ d v Q P hn r h w => w _ _ _ _ h (wipe_set hi) (r.assign (fun j => hn j i) (.inl ⟨d, rfl⟩))
/-- a, b in a block -/
def dPair (i j : Nat) : BD := fun d e P => match d with
  | .tuple [x, y] => P ((e.set i (.fz x)).set j (.fz y))
  | _ => False
theorem sd_pair {K : Fg} {vs : List Nat} {i j : Nat} (hi : i ∈ vs) (hj : j ∈ vs) : SD K vs (gTup K 2 (gCons (gName i) (gCons (gName j) gNil))) (dPair i j) := fun F0 B F H T τ env σ d v Q P hn r h w => by
  unfold dPair at h
  split at h
  · rename_i x y
    have top := r.top_fz
    cases top with
    | tup q a =>
      cases a with
      | cons a1 a2 =>
        cases a2 with
        | cons a2 a3 =>
          cases a3
          rename_i p u t
          refine ⟨p, [u, t], rfl, r.fh.sqT q, rfl, u, [t], rfl, t, [], rfl, rfl, ?_⟩
          have r1 : R K F0 B F H (T ++ [.fz y] ++ [.fz x]) (τ ++ [t] ++ [u]) env σ := (r.pop.push_fz a2).push_fz a1
          have hn1 : ∀ j' i' : Nat, (T ++ [Sl.fz y])[j']? ≠ some (Sl.al i') := fun j' i' e => by
            rcases get_snoc e with ⟨_, e⟩ | ⟨_, e⟩
            · exact hn j' i' e
            · cases e
          exact w _ _ _ _ h (by rw [wipe_set hj, wipe_set hi]) ((r1.assign (fun j' => hn1 j' i) (.inl ⟨x, rfl⟩)).assign (fun j' => hn j' j) (.inl ⟨y, rfl⟩))
  · exact h.elim

section
variable {X : Cx} {K : Fg}
/-- [elt for target in iter if test] -/
def bLc (bi : BI) (g : BD) (t : BT) (b : BX) (vs : List Nat) : BX := fun env P => bi env fun ds e1 => ∃ I : Nat → List PyData → BEnv → Prop, I 0 [] (wipeE e1 vs) ∧
  (∀ i d acc e, ds[i]? = some d → I i acc e → g d e fun e2 => t e2 fun k e3 => if k = true then b e3 fun s e4 => (match s with
    | .fz y => acc.length < sizeLine ∧ I (i + 1) (acc ++ [y]) (wipeE e4 vs)
    | _ => False) else I (i + 1) acc (wipeE e3 vs)) ∧
  ∀ acc e, I ds.length acc e → P (.ow (.lst acc)) (wipeE e vs)
theorem wipe_wipe {σ : L2.St} : ∀ {vs ws : List Nat}, (∀ v ∈ vs, v ∈ ws) → wipe (wipe σ vs) ws = wipe σ ws
  | [], _, _ => rfl
  | v :: vs, ws, h => by
    show wipe ((wipe σ vs).set v none) ws = _
    rw [wipe_set (h v (List.mem_cons_self ..)), wipe_wipe fun u hu => h u (List.mem_cons_of_mem _ hu)]
theorem se_lc {wi : TI} {g : TG} {tt : TT} {te : TE} {bi : BI} {gb : BD} {bt : BT} {b : BX} {vs : List Nat} (hi : SI K wi bi) (hg : SD K vs g gb) (ht : ST K tt bt) (he : SE K te b) : SE K (tLc wi g tt te vs) (bLc bi gb bt b vs) := fun F0 B F H T τ env σ Q P r h w => by
  have rd : R K F0 B F H (deal T) τ env σ := let ⟨c, q⟩ := r; ⟨c, q.deal⟩
  refine hi F0 B F H (deal T) τ env σ _ _ rd h fun ds J F1 H1 e1 S ν h1 hl hS r1 walk D hD => ?_
  obtain ⟨I, i0, turn, done⟩ := h1
  have pl : ∀ acc : List PyData, Plain (deal T ++ S ++ [.ow (.lst acc)]) := fun acc => plain_append (plain_append deal_plain hS) (plain_of rfl)
  refine ⟨fun i m H => m = ds.length - i ∧ i ≤ ds.length ∧ ∃ F acc e, I i acc e ∧ R K F0 B F H (deal T ++ S ++ [.ow (.lst acc)]) (τ ++ ν ++ [.ref D]) e (L2.wipe σ vs), ⟨ds.length, rfl, Nat.zero_le _, F1, [], _, i0, R.wiped (pl []) (r1.newL hD .nil) vs⟩, ?_⟩
  rintro i m H2 ⟨rfl, hi, F2, acc, e2, hI, r2⟩
  obtain ⟨wi, ws⟩ := walk F2 H2 e2 _ [.ow (.lst acc)] [.ref D] rfl r2
  by_cases hlt : i < ds.length
  · obtain ⟨go, yl⟩ := wi i ds[i] (List.getElem?_eq_getElem hlt)
    refine .inr ⟨go, fun H' => ∃ F acc e, I (i + 1) acc e ∧ R K F0 B F H' (deal T ++ S ++ [.ow (.lst acc)]) (τ ++ ν ++ [.ref D]) e (L2.wipe σ vs), fun H' hN => ⟨ds.length - (i + 1), by omega, rfl, hlt, hN⟩, fun x H3 hy => ?_⟩
    obtain ⟨F3, r3⟩ := yl x H3 hy
    refine hg F0 B F3 H3 _ _ e2 _ ds[i] x _ _ (pl acc) r3 (turn i _ acc e2 (List.getElem?_eq_getElem hlt) hI) fun F4 H4 e4 σ4 h4 hw r4 => ?_
    have hw' : L2.wipe σ4 vs = L2.wipe σ vs := hw.trans (wipe_wipe fun _ z => z)
    refine ⟨hw', ht F0 B F4 H4 _ _ e4 σ4 _ _ r4 h4 fun k F5 H5 e5 h5 r5 => ?_⟩
    cases k with
    | true =>
      rw [if_pos rfl] at h5 ⊢
      refine he F0 B F5 H5 _ _ e5 σ4 _ _ r5 h5 fun s v F6 H6 e6 h6 r6 => ?_
      cases s with
      | fz y =>
        obtain ⟨hz, h7⟩ := h6
        have r6' : R K F0 B F6 H6 ((deal T ++ S) ++ .ow (.lst acc) :: [.fz y]) ((τ ++ ν) ++ .ref D :: [v]) e6 σ4 := by simpa using r6
        obtain ⟨a, us, ea, hD6, hr6, up⟩ := R.lstT r6' rfl
        cases ea
        refine ⟨us, hD6, by rw [hr6.length]; exact hz, F6, acc ++ [y], _, h7, ?_⟩
        have r7 := up (us ++ [v]) (acc ++ [y]) (hr6.snoc r6.top_fz)
        have r8 : R K F0 B F6 (upd H6 D (.lst (us ++ [v]))) ((deal T ++ S ++ [.ow (.lst (acc ++ [y]))]) ++ [.fz y]) ((τ ++ ν ++ [.ref D]) ++ [v]) e6 σ4 := by simpa using r7
        have r9 := R.wiped (pl _) r8.pop vs
        rw [hw'] at r9
        exact r9
      | _ => exact h6.elim
    | false =>
      rw [if_neg Bool.false_ne_true] at h5 ⊢
      refine ⟨F5, acc, _, h5, ?_⟩
      have r9 := R.wiped (pl _) r5 vs
      rw [hw'] at r9
      exact r9
  · have e : i = ds.length := by omega
    subst e
    refine .inl ⟨ws, ?_⟩
    have r3 := R.wiped (pl acc) r2 vs
    rw [wipe_wipe fun _ z => z] at r3
    have r4 := R.unwipe (pl acc) r3 (fun i hi s z => wipeE_un hi z) (by
      have := r3.le
      rw [wipe_length] at this
      exact this)
    exact w _ _ _ _ _ (done acc e2 hI) (R.redeal r (R.drop r4 hl))
/-- a block's pieces -/
structure BTs' (X : Cx) (ifs : List Expr) (b : BT) : Prop where
  pts : PTs X ifs (ttB X.K b)
def bYes : BT := fun e P => P true e
theorem bts_nil : BTs' X [] bYes := ⟨⟨fun pins s σ H Q I ⟨F0, B, F, T, τ, env, P, r, h, w⟩ => pts_nil.run pins s σ H Q I (w _ _ _ _ h r)⟩⟩
theorem bts_one {c : Expr} {b : BT} (h : BTs X c b) : BTs' X [c] b := ⟨pts_one h⟩
theorem be_lc {elt tg iter : Expr} {ifs : List Expr} {scope : Scope} {pos : Pos} {g : TG} {bi : BI} {gb : BD} {bt : BT} {b : BX} (own : List (Str × Nat)) (hc : X.calm = true) (hN : X.N.Nodup) (hi : BIt X tg iter bi) (ok : BlkOk X.N X.env.scope scope own)
    (hg : ∀ (s : Shared) (H : Hp) (C : Addr) (cl : List (Str × Addr)) (fp : List Addr), PG (X.blk s H scope (PySem.compEnvC scope cl C X.env) fp) tg g) (sg : SD X.K (own.map (·.2)) g gb)
    (ht : ∀ (s : Shared) (H : Hp) (C : Addr) (cl : List (Str × Addr)) (fp : List Addr), BTs' (X.blk s H scope (PySem.compEnvC scope cl C X.env) fp) ifs bt)
    (he : ∀ (s : Shared) (H : Hp) (C : Addr) (cl : List (Str × Addr)) (fp : List Addr), BE (X.blk s H scope (PySem.compEnvC scope cl C X.env) fp) elt b) (hs : ∀ x, foldedSetIterable iter X.env x = pure x := by intro _; rfl) :
    BE X (.ListComp elt [⟨tg, iter, ifs, 0⟩] scope pos) (bLc bi gb bt b (own.map (·.2))) :=
  be_of (pe_lc (tt := ttB X.K bt) (te := teB X.K b) hc hN hi ok hg (fun s H C cl fp => (ht s H C cl fp).pts) he hs) (se_lc (si_B bi) sg (st_B bt) (se_B b))
theorem bs_setLc (i : Nat) {y : Str} {py spos : Pos} {ps : List Nat} {elt tg iter : Expr} {ifs : List Expr} {scope : Scope} {pos : Pos} {g : TG} {bi : BI} {gb : BD} {bt : BT} {b : BX} (own : List (Str × Nat)) (hc : X.calm = true) (hN : X.N.Nodup) (hi : BIt X tg iter bi) (ok : BlkOk X.N X.env.scope scope own)
    (hg : ∀ (s : Shared) (H : Hp) (C : Addr) (cl : List (Str × Addr)) (fp : List Addr), PG (X.blk s H scope (PySem.compEnvC scope cl C X.env) fp) tg g) (sg : SD X.K (own.map (·.2)) g gb)
    (ht : ∀ (s : Shared) (H : Hp) (C : Addr) (cl : List (Str × Addr)) (fp : List Addr), BTs' (X.blk s H scope (PySem.compEnvC scope cl C X.env) fp) ifs bt)
    (he : ∀ (s : Shared) (H : Hp) (C : Addr) (cl : List (Str × Addr)) (fp : List Addr), BE (X.blk s H scope (PySem.compEnvC scope cl C X.env) fp) elt b)
    (hsw : swapsWith (.ListComp elt [⟨tg, iter, ifs, 0⟩] scope pos) (some (.Name y py)) spos.line X.env = pure true) (hy : X.N[i]? = some y := by rfl) (hyl : X.env.scope.names.lookup y = some .local := by rfl) (hs : ∀ x, foldedSetIterable iter X.env x = pure x := by intro _; rfl) (hp : i ∉ ps := by decide) :
    BSt X ps (.Assign [.Name y py] (.ListComp elt [⟨tg, iter, ifs, 0⟩] scope pos) spos) (bAsg (bLc bi gb bt b (own.map (·.2))) (gStore i)) :=
  bs_of (ps_setLc (tt := ttB X.K bt) (te := teB X.K b) hc hN hy hyl hsw hi ok hg (fun s H C cl fp => (ht s H C cl fp).pts) he hs) (ss_asg (se_lc (si_B bi) sg (st_B bt) (se_B b)) (sg_name hp))
end
end BV

set_option maxHeartbeats 1000000
/-! BV, part k: methods of lists, sums, turned rows, sorted ints, ranges. -/
namespace BV
open PySem L2

section
variable {X : Cx} {K : Fg}
/-! methods of lists -/
abbrev BM := Sl → BL
def SM (K : Fg) (r : V → List V → Hp → VK → Prop) (b : BM) : Prop := ∀ F0 B F H T τ env σ s x ss vs Q P, ss.length = vs.length → R K F0 B F H (T ++ s :: ss) (τ ++ x :: vs) env σ → b s ss env P → Wx K F0 B T τ σ P Q → r x vs H Q
def isL (e : BEnv) (s : Sl) : Prop := (itemsL e s).isSome = true
def bMt (m : BM) (o : BX) (a : BA) : BX := fun e P => o e fun s e1 => isL e1 s ∧ a e1 fun ss e2 => m s ss e2 P
theorem se_mt0 {r : V → List V → Hp → VK → Prop} {mb : BM} {to : TE} {o : BX} (hr : SM K r mb) (ho : SE K to o) : SE K (tBM0 K "list" r to) (bMt mb o bNil) := fun F0 B F H T τ env σ Q P q h w =>
  ho F0 B F H T τ env σ _ _ q h fun s v F1 H1 e1 h1 q1 => by
    obtain ⟨ty, h1⟩ := h1
    obtain ⟨ds, hd⟩ := Option.isSome_iff_exists.mp ty
    obtain ⟨a, vs, rfl, hq, _⟩ := R.itemsL q1 hd
    exact ⟨.inl ⟨rfl, vs, hq⟩, hr F0 B F1 H1 T τ e1 σ s _ [] [] Q P rfl (by simpa using q1) h1 w⟩
theorem se_mt {r : V → List V → Hp → VK → Prop} {mb : BM} {to : TE} {ta : TA} {o : BX} {b : BA} (hr : SM K r mb) (ho : SE K to o) (ha : SA K ta b) : SE K (tBM K "list" r to ta) (bMt mb o b) := fun F0 B F H T τ env σ Q P q h w =>
  ho F0 B F H T τ env σ _ _ q h fun s v F1 H1 e1 h1 q1 => by
    obtain ⟨ty, h1⟩ := h1
    obtain ⟨ds, hd⟩ := Option.isSome_iff_exists.mp ty
    obtain ⟨a, vs, rfl, hq, _⟩ := R.itemsL q1 hd
    refine ⟨.inl ⟨rfl, vs, hq⟩, ha F0 B F1 H1 (T ++ [s]) (τ ++ [.ref a]) e1 σ _ _ q1 h1 fun ss us F2 H2 e2 h2 hl q2 => ?_⟩
    exact hr F0 B F2 H2 T τ e2 σ s _ ss us Q P hl (by simpa [List.append_assoc] using q2) h2 w
section
variable {r : V → List V → Hp → VK → Prop} {mb : BM} {o : BX} {b : BA} {x e : Expr} {es : List Expr} {name : Str} {apos cpos : Pos} {id : String}
theorem be_mt0 (slot : Slot "list" name id) (hty : typeOf (.builtin id) = pure (.type "method_descriptor")) (hm : MtR X id r) (hr : SM X.K r mb) (ho : BE X x o)
    (hbase : attributeBase x name X.env (eval x X.env) = eval x X.env := by rfl) (hline : (apos.endLine == cpos.line) = true := by rfl) : BE X (.Call (.Attribute x name apos) [] [] cpos) (bMt mb o bNil) :=
  be_of (pe_bm0 PySem.F.plainAttrs_list slot hty hm ho hbase hline) (se_mt0 hr (se_B o))
theorem be_mt (slot : Slot "list" name id) (hty : typeOf (.builtin id) = pure (.type "method_descriptor")) (hm : MtR X id r) (hr : SM X.K r mb) (ho : BE X x o) (ha : BAs X (e :: es) b)
    (hbase : attributeBase x name X.env (eval x X.env) = eval x X.env := by rfl)
    (hfew : ((backTo cpos (starEach (e :: es) X.env)).all (fun x => !x.1) && (backToKw cpos (keywordEach [] X.env)).all (fun x => x.1.isSome)
      && decide ((e :: es).length + ([] : List Keyword).length + (if ([] : List Keyword).isEmpty then 0 else 1) < 30)) = true := by rfl)
    (hline : (apos.endLine == cpos.line) = true := by rfl) (hs : starEach (e :: es) X.env = (false, eval e X.env) :: starEach es X.env := by rfl) (hplain : (backTo cpos (starEach es X.env)).any (·.1) = false := by rfl) :
    BE X (.Call (.Attribute x name apos) (e :: es) [] cpos) (bMt mb o b) :=
  be_of (pe_bm PySem.F.plainAttrs_list slot hty hm ho ha hbase hfew hline hs hplain) (se_mt hr (se_B o) (sa_B b))
end
/-- the list that a name owns is changed: f tells what it is then, and the answer -/
def mOwn (f : List PyData → List PyData → Option (List PyData × PyData)) : BM := fun s ss e P => match s with
  | .al i => match e[i]? with
    | some (.ow (.lst xs)) => asDatas ss fun ds => match f xs ds with
      | some (ys, d) => P (.fz d) (e.set i (.ow (.lst ys)))
      | none => False
    | _ => False
  | _ => False
theorem sm_own {r : V → List V → Hp → VK → Prop} {f : List PyData → List PyData → Option (List PyData × PyData)}
    (h : ∀ F H a vs xs us ds ys d Q, H a = some (.lst vs) → RepA K F vs xs → RepA K F us ds → f xs ds = some (ys, d) → (∀ ws v, RepA K F ws ys → Rep K F v d → Q v (upd H a (.lst ws))) → r (.ref a) us H Q) : SM K r (mOwn f) := fun F0 B F H T τ env σ s x ss vs Q P hl q hb w => by
  unfold mOwn at hb
  split at hb
  · rename_i i
    split at hb
    · rename_i xs e
      obtain ⟨ds, hd, hb⟩ := asDatas_of hb
      split at hb
      · rename_i ys d ef
        have q' : R K F0 B F H ((T ++ [.al i]) ++ ss) ((τ ++ [x]) ++ vs) env σ := by simpa [List.append_assoc] using q
        have hds := R.datas hl q' hd
        have q1 := q'.popn hl
        have ex := q1.top_al
        obtain ⟨a, us, ea, ha, hr, up⟩ := R.lst q1.pop e
        rw [ea] at ex
        cases ex
        exact h F H a us xs vs ds ys d Q ha hr hds ef fun ws v hw hv => w.fz (up ws ys hw) hv hb
      · exact hb.elim
    · exact hb.elim
  · exact hb.elim
def fAppend : List PyData → List PyData → Option (List PyData × PyData) := fun xs ds => match ds with
  | [d] => if xs.length < sizeLine then some (xs ++ [d], .none) else none
  | _ => none
theorem sm_append : SM K rAppend (mOwn fAppend) := sm_own fun F H a vs xs us ds ys d Q ha hx hd ef q => by
  unfold fAppend at ef
  split at ef
  · rename_i d'
    by_cases hz : xs.length < sizeLine
    · rw [if_pos hz] at ef
      cases ef
      cases hd with
      | cons h1 h2 =>
        cases h2
        exact ⟨a, vs, _, rfl, rfl, ha, by rw [hx.length]; exact hz, q _ _ (hx.snoc h1) .non⟩
    · rw [if_neg hz] at ef
      cases ef
  · cases ef
def fPop : List PyData → List PyData → Option (List PyData × PyData) := fun xs ds => match ds with
  | [] => (xs[xs.length - 1]?).map fun d => (xs.dropLast, d)
  | _ => none
theorem RepA.dropLast {F : Hp} {vs : List V} {ds : List PyData} (h : RepA K F vs ds) : RepA K F vs.dropLast ds.dropLast := by
  rw [List.dropLast_eq_take, List.dropLast_eq_take, h.length]
  exact h.take _
theorem sm_pop : SM K rPop (mOwn fPop) := sm_own fun F H a vs xs us ds ys d Q ha hx hd ef q => by
  unfold fPop at ef
  split at ef
  · cases hd
    cases e : xs[xs.length - 1]? with
    | none =>
      rw [e] at ef
      cases ef
    | some d' =>
      rw [e] at ef
      cases ef
      obtain ⟨v, e2, rv⟩ := hx.get e
      exact ⟨a, vs, v, rfl, rfl, ha, by rw [hx.length]; exact e2, q _ _ hx.dropLast rv⟩
  · cases ef
def fPopAt : List PyData → List PyData → Option (List PyData × PyData) := fun xs ds => match ds with
  | [.int i] => if xs.length ≤ sizeLine then (match ixN xs.length i with
    | some k => (xs[k]?).map fun d => (xs.eraseIdx k, d)
    | none => none) else none
  | _ => none
theorem sm_popAt : SM K rPopAt (mOwn fPopAt) := sm_own fun F H a vs xs us ds ys d Q ha hx hd ef q => by
  unfold fPopAt at ef
  split at ef
  · rename_i i
    by_cases hz : xs.length ≤ sizeLine
    · rw [if_pos hz] at ef
      cases hd with
      | cons h1 h2 =>
        cases h2
        cases int_of h1
        split at ef
        · rename_i k e
          cases e1 : xs[k]? with
          | none =>
            rw [e1] at ef
            cases ef
          | some d' =>
            rw [e1] at ef
            cases ef
            obtain ⟨v, e2, rv⟩ := hx.get e1
            obtain ⟨s1, s2, s3, s4⟩ := ixN_seq e
            have hs := sizeLine_eq
            exact ⟨a, vs, i, k, v, rfl, rfl, ha, by omega, by omega, by rw [hx.length]; exact s1, e2, q _ _ (hx.erase k) rv⟩
        · cases ef
    · rw [if_neg hz] at ef
      cases ef
  · cases ef
/-- the first place of an int -/
def idxI : List Int → Int → Option Nat
  | [], _ => none
  | x :: xs, k => if x = k then some 0 else (idxI xs k).map (· + 1)
theorem idxI_some : ∀ {xs : List Int} {k : Int} {j : Nat}, idxI xs k = some j → xs[j]? = some k ∧ ∀ m, m < j → xs[m]? ≠ some k
  | x :: xs, k, j, h => by
    unfold idxI at h
    by_cases e : x = k
    · rw [if_pos e] at h
      cases h
      exact ⟨by simp [e], fun m hm => by omega⟩
    · rw [if_neg e] at h
      cases z : idxI xs k with
      | none =>
        rw [z] at h
        cases h
      | some j' =>
        rw [z] at h
        cases h
        obtain ⟨h1, h2⟩ := idxI_some z
        refine ⟨by simpa using h1, fun m hm => ?_⟩
        cases m with
        | zero => simpa using e
        | succ m =>
          have := h2 m (Nat.lt_of_succ_lt_succ hm)
          simpa using this
def intsD : List PyData → Option (List Int)
  | [] => some []
  | .int i :: r => (intsD r).map (i :: ·)
  | _ :: _ => none
theorem intsD_eq : ∀ {ds : List PyData} {ns : List Int}, intsD ds = some ns → ds = ns.map PyData.int
  | [], ns, h => by
    cases h
    rfl
  | d :: ds, ns, h => by
    cases d with
    | int i =>
      unfold intsD at h
      cases z : intsD ds with
      | none =>
        rw [z] at h
        cases h
      | some ms =>
        rw [z] at h
        cases h
        rw [intsD_eq z]
        rfl
    | _ => cases h
theorem intsD_map : ∀ ns : List Int, intsD (ns.map PyData.int) = some ns
  | [] => rfl
  | n :: ns => by
    show (intsD (ns.map PyData.int)).map (n :: ·) = _
    rw [intsD_map ns]
    rfl
def fRemove : List PyData → List PyData → Option (List PyData × PyData) := fun xs ds => match ds with
  | [.int k] => match intsD xs with
    | some ns => (idxI ns k).map fun j => ((ns.eraseIdx j).map PyData.int, .none)
    | none => none
  | _ => none
theorem sm_remove : SM K rRemI (mOwn fRemove) := sm_own fun F H a vs xs us ds ys d Q ha hx hd ef q => by
  unfold fRemove at ef
  split at ef
  · rename_i k
    split at ef
    · rename_i ns en
      cases e : idxI ns k with
      | none =>
        rw [e] at ef
        cases ef
      | some j =>
        rw [e] at ef
        cases ef
        cases hd with
        | cons h1 h2 =>
          cases h2
          cases int_of h1
          have ev := (intsD_eq en) ▸ hx
          have ev2 := ev.ints_of
          subst ev2
          obtain ⟨e1, e2⟩ := idxI_some e
          exact ⟨a, ns, k, j, rfl, rfl, ha, e1, e2, q _ _ (RepA.ints _) .non⟩
    · cases ef
  · cases ef
/-- l.index(x) -/
def idxD : List PyData → PyData → Option Nat
  | [], _ => none
  | x :: xs, k => if PyData.eqv x k = true then some 0 else (idxD xs k).map (· + 1)
theorem idxD_some : ∀ {xs : List PyData} {k : PyData} {j : Nat}, idxD xs k = some j → ∃ z, xs[j]? = some z ∧ PyData.eqv z k = true ∧ ∀ m z', m < j → xs[m]? = some z' → PyData.eqv z' k = false
  | x :: xs, k, j, h => by
    unfold idxD at h
    by_cases e : PyData.eqv x k = true
    · rw [if_pos e] at h
      cases h
      exact ⟨x, rfl, e, fun m z' hm => by omega⟩
    · rw [if_neg e] at h
      cases z : idxD xs k with
      | none =>
        rw [z] at h
        cases h
      | some j' =>
        rw [z] at h
        cases h
        obtain ⟨y, h1, h2, h3⟩ := idxD_some z
        refine ⟨y, by simpa using h1, h2, fun m z' hm hz => ?_⟩
        cases m with
        | zero =>
          simp at hz
          subst hz
          exact Bool.eq_false_iff.mpr e
        | succ m => exact h3 m z' (Nat.lt_of_succ_lt_succ hm) (by simpa using hz)
def mIndex : BM := fun s ss e P => match itemsL e s with
  | some ds => match ss with
    | [.fz d] => (SeqAt.shaped (.list ds) = true ∧ SeqAt.shaped d = true) ∧ (match idxD ds d with
      | some j => P (.fz (.int j)) e
      | none => False)
    | _ => False
  | none => False
theorem sm_index : SM K (rIndexD K) mIndex := fun F0 B F H T τ env σ s x ss vs Q P hl q hb w => by
  unfold mIndex at hb
  split at hb
  · rename_i ds e
    split at hb
    · rename_i d
      obtain ⟨⟨s1, s2⟩, hb⟩ := hb
      split at hb
      · rename_i j ej
        match vs, hl with
        | [v], _ =>
          have q' : R K F0 B F H (T ++ [s] ++ [.fz d]) (τ ++ [x] ++ [v]) env σ := by simpa [List.append_assoc] using q
          have rv := Rep.mono q'.fh q'.top_fz
          obtain ⟨a, us, rfl, hq, hr⟩ := R.itemsL q'.pop e
          have hr' := RepA.mono q'.fh hr
          obtain ⟨z, z1, z2, z3⟩ := idxD_some ej
          exact ⟨a, v, d, ds, j, z, rfl, rfl, (Rep.lst hq hr').dp (SeqAt.canLay_of_shaped s1), rv.dp (SeqAt.canLay_of_shaped s2), s1, s2, z1, z2, z3, w.fz q'.pop.pop (.int _) hb⟩
      · exact hb.elim
    · exact hb.elim
  · exact hb.elim
section
variable {x e : Expr} {es : List Expr} {apos cpos : Pos} {o : BX} {b : BA}
theorem be_append (ho : BE X x o) (ha : BAs X (e :: es) b)
    (hbase : attributeBase x "append" X.env (eval x X.env) = eval x X.env := by rfl)
    (hfew : ((backTo cpos (starEach (e :: es) X.env)).all (fun x => !x.1) && (backToKw cpos (keywordEach [] X.env)).all (fun x => x.1.isSome)
      && decide ((e :: es).length + ([] : List Keyword).length + (if ([] : List Keyword).isEmpty then 0 else 1) < 30)) = true := by rfl)
    (hline : (apos.endLine == cpos.line) = true := by rfl) (hs : starEach (e :: es) X.env = (false, eval e X.env) :: starEach es X.env := by rfl) (hplain : (backTo cpos (starEach es X.env)).any (·.1) = false := by rfl) :
    BE X (.Call (.Attribute x "append" apos) (e :: es) [] cpos) (bMt (mOwn fAppend) o b) := be_mt PySem.F.slot_list_append PySem.F.type_list_append mt_append sm_append ho ha hbase hfew hline hs hplain
theorem be_popAt (ho : BE X x o) (ha : BAs X (e :: es) b)
    (hbase : attributeBase x "pop" X.env (eval x X.env) = eval x X.env := by rfl)
    (hfew : ((backTo cpos (starEach (e :: es) X.env)).all (fun x => !x.1) && (backToKw cpos (keywordEach [] X.env)).all (fun x => x.1.isSome)
      && decide ((e :: es).length + ([] : List Keyword).length + (if ([] : List Keyword).isEmpty then 0 else 1) < 30)) = true := by rfl)
    (hline : (apos.endLine == cpos.line) = true := by rfl) (hs : starEach (e :: es) X.env = (false, eval e X.env) :: starEach es X.env := by rfl) (hplain : (backTo cpos (starEach es X.env)).any (·.1) = false := by rfl) :
    BE X (.Call (.Attribute x "pop" apos) (e :: es) [] cpos) (bMt (mOwn fPopAt) o b) := be_mt PySem.F.slot_list_pop PySem.F.type_list_pop mt_popAt sm_popAt ho ha hbase hfew hline hs hplain
theorem be_remove (ho : BE X x o) (ha : BAs X (e :: es) b)
    (hbase : attributeBase x "remove" X.env (eval x X.env) = eval x X.env := by rfl)
    (hfew : ((backTo cpos (starEach (e :: es) X.env)).all (fun x => !x.1) && (backToKw cpos (keywordEach [] X.env)).all (fun x => x.1.isSome)
      && decide ((e :: es).length + ([] : List Keyword).length + (if ([] : List Keyword).isEmpty then 0 else 1) < 30)) = true := by rfl)
    (hline : (apos.endLine == cpos.line) = true := by rfl) (hs : starEach (e :: es) X.env = (false, eval e X.env) :: starEach es X.env := by rfl) (hplain : (backTo cpos (starEach es X.env)).any (·.1) = false := by rfl) :
    BE X (.Call (.Attribute x "remove" apos) (e :: es) [] cpos) (bMt (mOwn fRemove) o b) := be_mt PySem.F.slot_list_remove PySem.F.type_list_remove mt_remove sm_remove ho ha hbase hfew hline hs hplain
theorem be_index (hu : X.A.units + 65 < cLine) (ho : BE X x o) (ha : BAs X (e :: es) b)
    (hbase : attributeBase x "index" X.env (eval x X.env) = eval x X.env := by rfl)
    (hfew : ((backTo cpos (starEach (e :: es) X.env)).all (fun x => !x.1) && (backToKw cpos (keywordEach [] X.env)).all (fun x => x.1.isSome)
      && decide ((e :: es).length + ([] : List Keyword).length + (if ([] : List Keyword).isEmpty then 0 else 1) < 30)) = true := by rfl)
    (hline : (apos.endLine == cpos.line) = true := by rfl) (hs : starEach (e :: es) X.env = (false, eval e X.env) :: starEach es X.env := by rfl) (hplain : (backTo cpos (starEach es X.env)).any (·.1) = false := by rfl) :
    BE X (.Call (.Attribute x "index" apos) (e :: es) [] cpos) (bMt mIndex o b) := be_mt PySem.F.slot_list_index PySem.F.type_list_index (mt_indexD hu) sm_index ho ha hbase hfew hline hs hplain
theorem be_pop (ho : BE X x o) (hbase : attributeBase x "pop" X.env (eval x X.env) = eval x X.env := by rfl) (hline : (apos.endLine == cpos.line) = true := by rfl) : BE X (.Call (.Attribute x "pop" apos) [] [] cpos) (bMt (mOwn fPop) o bNil) :=
  be_mt0 PySem.F.slot_list_pop PySem.F.type_list_pop mt_pop sm_pop ho hbase hline
end
end
end BV

set_option maxHeartbeats 1000000
/-! BV, part l: sums and multiples of lists, turned rows, sorted ints, ranges, x in a row of ints. -/
namespace BV
open PySem L2

section
variable {X : Cx} {K : Fg}
/-- a list that is one's own: a temporary, or a name's -/
def ownL (e : BEnv) : Sl → Option (List PyData)
  | .ow (.lst ds) => some ds
  | .al i => match e[i]? with
    | some (.ow (.lst ds)) => some ds
    | _ => none
  | _ => none
theorem R.ownL {F0 B F H : Hp} {T : List Sl} {τ : List V} {env : BEnv} {σ : L2.St} {s : Sl} {v : V} {ds : List PyData} (r : R K F0 B F H (T ++ [s]) (τ ++ [v]) env σ) (h : ownL env s = some ds) : ∃ a vs, v = .ref a ∧ H a = some (.lst vs) ∧ RepA K F vs ds := by
  obtain ⟨c, q⟩ := r
  have top := q.top
  cases s with
  | ow o =>
    obtain ⟨a, rfl, w⟩ := top
    cases o with
    | lst xs =>
      cases h
      obtain ⟨_, vs, e, z⟩ := w
      exact ⟨a, vs, rfl, e, z⟩
    | _ => cases h
  | al i =>
    have e2 : σ[i]? = some (some v) := top
    have h' : (match env[i]? with | some (.ow (.lst ds)) => some ds | _ => none) = some ds := h
    split at h'
    · rename_i e
      cases h'
      obtain ⟨a, e1, _, vs, e, z⟩ := q.slt _ _ e
      rw [e1] at e2
      cases e2
      exact ⟨a, vs, rfl, e, z⟩
    · cases h'
  | _ => cases h
/-- list + list, both one's own -/
def bCatL : B2 := fun s t e P => match ownL e s, ownL e t with
  | some xs, some ys => xs.length + ys.length ≤ sizeLine ∧ P (.ow (.lst (xs ++ ys))) e
  | _, _ => False
theorem s2_catL : S2 K rCat bCatL := fun F0 B F H T τ env σ s t x y Q P r h w => by
  unfold bCatL at h
  split at h
  · rename_i xs ys e1 e2
    obtain ⟨hz, h⟩ := h
    obtain ⟨a, us, rfl, ha, ra⟩ := R.ownL r.pop e1
    obtain ⟨b, vs, rfl, hb, rb⟩ := R.ownL r e2
    exact ⟨a, b, us, vs, rfl, rfl, ha, hb, by rw [ra.length, rb.length]; exact hz, fun p hp => w _ _ _ _ _ h (r.pop.pop.newL hp (ra.append rb))⟩
  · exact h.elim
theorem be_catL {x y : Expr} {pos : Pos} {a b : BX} (ha : BE X x a) (hb : BE X y b) : BE X (.BinOp x .Add y pos) (bOp bCatL a b) := be_op op_cat s2_catL ha hb
/-- tuple + tuple -/
def bCatT : B2 := fun s t e P => match itemsT s, itemsT t with
  | some xs, some ys => xs.length + ys.length ≤ sizeLine ∧ P (.fz (.tuple (xs ++ ys))) e
  | _, _ => False
theorem s2_catT : S2 K (rCatA K) bCatT := fun F0 B F H T τ env σ s t x y Q P r h w => by
  unfold bCatT at h
  split at h
  · rename_i xs ys e1 e2
    obtain ⟨hz, h⟩ := h
    obtain ⟨a, us, rfl, ha, fa, ra⟩ := R.itemsT r.pop e1
    obtain ⟨b, vs, rfl, hb, fb, rb⟩ := R.itemsT r e2
    refine ⟨a, b, us, vs, rfl, rfl, ha, hb, by rw [ra.length, rb.length]; exact hz, fun e => ?_, fun _ e => ?_, fun _ _ p hp => w _ _ _ _ _ h (r.pop.pop.newT hp (ra.append rb))⟩
    · subst e
      cases ra
      exact w.fz r.pop.pop (.tup fb rb) h
    · subst e
      cases rb
      rw [List.append_nil] at h
      exact w.fz r.pop.pop (.tup fa ra) h
  · exact h.elim
theorem be_catT {x y : Expr} {pos : Pos} {a b : BX} (ha : BE X x a) (hb : BE X y b) : BE X (.BinOp x .Add y pos) (bOp bCatT a b) := be_op op_catA s2_catT ha hb
theorem RepA.reps {F : Hp} {vs : List V} {ds : List PyData} (h : RepA K F vs ds) : ∀ k : Nat, RepA K F (List.replicate k vs).flatten (List.replicate k ds).flatten
  | 0 => .nil
  | k + 1 => by
    rw [List.replicate_succ, List.replicate_succ, List.flatten_cons, List.flatten_cons]
    exact h.append (RepA.reps h k)
/-- list * int -/
def bRepL : B2 := fun s t e P => asInt t fun k => match ownL e s with
  | some xs => (0 ≤ k ∧ k < 16777216 ∧ xs.length * k.toNat ≤ sizeLine) ∧ P (.ow (.lst (List.replicate k.toNat xs).flatten)) e
  | none => False
theorem s2_repL : S2 K rRep bRepL := fun F0 B F H T τ env σ s t x y Q P r h w => by
  have h0 := asInt_of h
  clear h
  obtain ⟨k, rfl, h⟩ := h0
  split at h
  · rename_i xs e1
    obtain ⟨⟨h1, h2, h3⟩, h⟩ := h
    cases int_of r.top_fz
    obtain ⟨a, us, rfl, ha, ra⟩ := R.ownL r.pop e1
    exact ⟨a, k, us, rfl, rfl, ha, by omega, by omega, by rw [ra.length]; exact h3, fun p hp => w _ _ _ _ _ h (r.pop.pop.newL hp (ra.reps _))⟩
  · exact h.elim
theorem be_repL {x y : Expr} {pos : Pos} {a b : BX} (ha : BE X x a) (hb : BE X y b) : BE X (.BinOp x .Mult y pos) (bOp bRepL a b) := be_op op_rep s2_repL ha hb
/-- x in, not in a row of ints -/
theorem inV_ints (i : Int) (ns : List Int) : inV (.int i) (ns.map V.int) = decide (i ∈ ns) := by
  unfold inV
  induction ns with
  | nil => rfl
  | cons n ns ih =>
    rw [List.map_cons, List.any_cons, ih]
    show ((n == i) || _) = _
    by_cases e : n = i
    · subst e
      simp
    · have e' : ¬ i = n := fun z => e z.symm
      simp [e, e']
theorem flat_ints (ns : List Int) : (ns.map V.int).all flatV = true := by
  induction ns with
  | nil => rfl
  | cons n ns ih => exact ih
def bInI (neg : Bool) : B2 := fun s t e P => asInt s fun i => match itemsOf e t with
  | some ds => match intsD ds with
    | some ns => P (.fz (.bool (neg != decide (i ∈ ns)))) e
    | none => False
  | none => False
theorem s2_inI {neg : Bool} : S2k K (rIn K neg) (bInI neg) := fun F0 B F H T τ env σ s t x y Q P r h w => by
  have h0 := asInt_of h
  clear h
  obtain ⟨i, rfl, h⟩ := h0
  split at h
  · rename_i ds e1
    split at h
    · rename_i ns e2
      cases int_of r.pop.top_fz
      obtain ⟨a, us, rfl, ha, ra⟩ := R.itemsOf r e1
      have e3 := ((intsD_eq e2) ▸ ra).ints_of
      subst e3
      refine ⟨a, _, rfl, ha.imp id fun z => z.1, rfl, flat_ints ns, ?_⟩
      rw [inV_ints]
      cases neg with
      | true => exact w.fz r (.bl _) (by simpa using h)
      | false => exact w.fz r (.bl _) (by simpa using h)
    · exact h.elim
  · exact h.elim
theorem cr_inI : Cq X .In (bInI false) := ⟨_, op_in_seq, s2_inI⟩
theorem cr_notInI : Cq X .NotIn (bInI true) := ⟨_, op_notIn_seq, s2_inI⟩
/-- l[::-1] -/
def bRevL (a : BX) : BX := fun e P => a e fun s e1 => match itemsL e1 s with
  | some ds => P (.ow (.lst ds.reverse)) e1
  | none => False
theorem RepA.rev {F : Hp} {vs : List V} {ds : List PyData} (h : RepA K F vs ds) : RepA K F vs.reverse ds.reverse := h.reverse
theorem be_revL {x : Expr} {k : Nat} {p1 p2 p3 pos : Pos} {a : BX} (ha : BE X x a) : BE X (.Subscript x (.Slice none none (some (.UnaryOp .USub (.Constant (.int 1) k p1) p2)) p3) pos) (bRevL a) :=
  be_of (pe_revL ha) fun F0 B F H T τ env σ Q P r p w => se_B a F0 B F H T τ env σ _ _ r p fun s v F1 H1 e1 h1 q1 => by
    split at h1
    · rename_i ds e
      obtain ⟨b, vs, rfl, hq, hr⟩ := R.itemsL q1 e
      exact ⟨b, vs, rfl, hq, fun p hp => w _ _ _ _ _ h1 (q1.pop.newL hp hr.reverse)⟩
    · exact h1.elim
/-- sorted(l), ints -/
def b1Sorted : B1 := fun s e P => match itemsL e s with
  | some ds => match intsD ds with
    | some ns => ∀ ns' : List Int, ns'.Perm ns → ns'.Pairwise (· ≤ ·) → P (.ow (.lst (ns'.map PyData.int))) e
    | none => False
  | none => False
theorem cq_sorted : CallQ X (.builtin "sorted") (one1 b1Sorted) := ⟨_, cr_sortedI, sl_one fun F0 B F H T τ env σ s v Q P r h w => by
  unfold b1Sorted at h
  split at h
  · rename_i ds e
    split at h
    · rename_i ns e2
      obtain ⟨a, vs, rfl, hq, hr⟩ := R.itemsL r e
      have e3 := ((intsD_eq e2) ▸ hr).ints_of
      subst e3
      exact ⟨a, ns, rfl, hq, fun ns' p h1 h2 hp => w _ _ _ _ _ (h ns' h1 h2) (r.pop.newL hp (RepA.ints ns'))⟩
    · exact h.elim
  · exact h.elim⟩
/-! ranges as values -/
theorem rg_rep {F : Hp} (a b : Int) : RepA K F (rgV a b) (rangeD a (b - a).toNat) := by
  have e1 : rgV a b = ((List.range (b - a).toNat).map fun i : Nat => a + (i : Int)).map V.int := by
    unfold rgV
    rw [List.map_map]
    rfl
  have e2 : rangeD a (b - a).toNat = ((List.range (b - a).toNat).map fun i : Nat => a + (i : Int)).map PyData.int := by
    unfold rangeD
    rw [List.map_map]
    rfl
  rw [e1, e2]
  exact RepA.ints _
section
variable {x y : Expr} {p p2 pos pos2 : Pos} {a b : BX}
def RgB (i j : Int) : Prop := 0 ≤ i ∧ i ≤ 16777216 ∧ 0 ≤ j ∧ j ≤ 16777216
theorem RgB.ok {i j : Int} (h : RgB i j) : RgOk i j := RgOk.of_le h.1 h.2.2.2 h.2.1 h.2.2.1
def bLstRg1 (a : BX) : BX := fun e P => a e fun s e1 => asInt s fun n => RgB 0 n ∧ P (.ow (.lst (rangeD 0 n.toNat))) e1
def bTupRg1 (a : BX) : BX := fun e P => a e fun s e1 => asInt s fun n => RgB 0 n ∧ P (.fz (.tuple (rangeD 0 n.toNat))) e1
theorem be_listRg1 (hc : X.calm = true) (hg : Gl X "list") (hm : X.mg "list" = none) (hg2 : Gl X "range") (hm2 : X.mg "range" = none) (ha : BE X x a) (na : starEach [x] X.env = (false, eval x X.env) :: starEach [] X.env := by rfl)
    (nb : starEach [(Expr.Call (.Name "range" p2) [x] [] pos2)] X.env = (false, eval (Expr.Call (.Name "range" p2) [x] [] pos2) X.env) :: starEach [] X.env := by rfl) : BE X (.Call (.Name "list" p) [.Call (.Name "range" p2) [x] [] pos2] [] pos) (bLstRg1 a) :=
  be_of (pe_listRg hc hg hm (prg_1 hg2 hm2 ha na) nb) fun F0 B F H T τ env σ Q P r h w => se_B a F0 B F H T τ env σ _ _ r h fun s v F1 H1 e1 h1 r1 => by
    obtain ⟨n, rfl, hb, h2⟩ := asInt_of h1
    cases int_of r1.top_fz
    exact ⟨n, rfl, hb.ok, fun q hq => w _ _ _ _ _ h2 (r1.pop.newL hq (by have := rg_rep (K := X.K) (F := F1) 0 n; simpa using this))⟩
theorem be_tupRg1 (hc : X.calm = true) (hg : Gl X "tuple") (hm : X.mg "tuple" = none) (hg2 : Gl X "range") (hm2 : X.mg "range" = none) (ha : BE X x a) (na : starEach [x] X.env = (false, eval x X.env) :: starEach [] X.env := by rfl)
    (nb : starEach [(Expr.Call (.Name "range" p2) [x] [] pos2)] X.env = (false, eval (Expr.Call (.Name "range" p2) [x] [] pos2) X.env) :: starEach [] X.env := by rfl) : BE X (.Call (.Name "tuple" p) [.Call (.Name "range" p2) [x] [] pos2] [] pos) (bTupRg1 a) :=
  be_of (pe_tupRg hc hg hm (prg_1 hg2 hm2 ha na) nb) fun F0 B F H T τ env σ Q P r h w => se_B a F0 B F H T τ env σ _ _ r h fun s v F1 H1 e1 h1 r1 => by
    obtain ⟨n, rfl, hb, h2⟩ := asInt_of h1
    cases int_of r1.top_fz
    exact ⟨n, rfl, hb.ok, fun q hq => w _ _ _ _ _ h2 (r1.pop.newT hq (by have := rg_rep (K := X.K) (F := F1) 0 n; simpa using this))⟩
end
end
end BV

set_option maxHeartbeats 1000000
/-! BV, part m: a tuple turned about, a range downwards. -/
namespace BV
open PySem PySem.Spec PyProof.Rows L2 HT

section
variable {prog : Program} {w : World} {A : Around} {E : Value → Shared → Prop} {s : Shared}
/-- the parts none, none, -1 -/
theorem applied_back {sl : Addr} {vl vu vs : Value} {n : Nat} {Q : Int × Int × Nat → Shared → Prop} (hs : s.heap.IsSliceOf sl vl vu vs) (pl : IsPart vl none) (pu : IsPart vu none) (ps : IsPart vs (some (-1)))
    (h : Q ((n : Int) - 1, -1, n) s) : wpAny (model prog w) A (Builtin.Slice.sliceApplied (.ref sl) (pure (n : Int))) Q E s := by
  obtain ⟨os, o1, o2, o3⟩ := id hs
  unfold Builtin.Slice.sliceApplied
  unfold Builtin.Slice.sliceFields
  refine wpAny_bind (wpAny_bind (wpAny_field o1 o3 (x := vl) rfl (wpAny_bind (wpAny_field o1 o3 (x := vu) rfl (wpAny_bind (wpAny_field o1 o3 (x := vs) rfl (wpAny_pure ?_)))))))
  refine wpAny_bind (slicePart_ ps ?_)
  show wpAny _ _ (if ((-1 : Int) == 0) = true then _ else _) _ _ s
  rw [if_neg (by decide)]
  refine wpAny_bind (slicePart_ pl (wpAny_bind (slicePart_ pu (wpAny_bind (wpAny_pure ?_)))))
  have e : Builtin.Slice.sliceAdjust none none (-1) (n : Int) = ((n : Int) - 1, -1) := rfl
  have e2 : Builtin.Slice.slicePlaces ((n : Int) - 1) (-1) (-1) = n := by
    unfold Builtin.Slice.slicePlaces
    rw [if_neg (by decide)]
    by_cases hn : n = 0
    · subst hn
      rfl
    · rw [if_pos (by omega)]
      have : ((n : Int) - 1 - -1 - 1) / (- -1) + 1 = (n : Int) := by
        rw [show (- -1 : Int) = 1 from rfl, Int.ediv_one]
        omega
      rw [this]
      rfl
  show wpAny _ _ (match Builtin.Slice.sliceAdjust none none (-1) (n : Int) with | (lo, hi) => pure (lo, (-1 : Int), Builtin.Slice.slicePlaces lo hi (-1))) _ _ s
  rw [e]
  show wpAny _ _ (pure ((n : Int) - 1, (-1 : Int), Builtin.Slice.slicePlaces ((n : Int) - 1) (-1) (-1))) _ _ s
  rw [e2]
  exact wpAny_pure h
theorem fm_some {α β : Type} {f : α → Option β} {g : α → β} : ∀ {l : List α}, (∀ k ∈ l, f k = some (g k)) → l.filterMap f = l.map g
  | [], _ => rfl
  | k :: l, h => by
    rw [List.filterMap_cons, h k (List.mem_cons_self ..), List.map_cons, fm_some fun j hj => h j (List.mem_cons_of_mem _ hj)]
theorem pick_back (xs : List Value) : (List.range xs.length).filterMap (fun (k : Nat) => xs.toArray[(((xs.length : Nat) : Int) - 1 + (k : Int) * (-1)).toNat]?) = xs.reverse := by
  refine List.ext_getElem? fun i => ?_
  have hf : ∀ k ∈ List.range xs.length, xs.toArray[(((xs.length : Nat) : Int) - 1 + (k : Int) * (-1)).toNat]? = some (xs.getD (xs.length - 1 - k) .none) := fun k hk => by
    have hk' := List.mem_range.mp hk
    have e : (((xs.length : Nat) : Int) - 1 + (k : Int) * (-1)).toNat = xs.length - 1 - k := by omega
    rw [e, List.getElem?_toArray, List.getD_eq_getElem?_getD, List.getElem?_eq_getElem (by omega)]
    rfl
  have e1 : (List.range xs.length).filterMap (fun (k : Nat) => xs.toArray[(((xs.length : Nat) : Int) - 1 + (k : Int) * (-1)).toNat]?) = (List.range xs.length).map fun k => xs.getD (xs.length - 1 - k) .none := by
    exact fm_some hf
  rw [e1, List.getElem?_map]
  by_cases hi : i < xs.length
  · rw [List.getElem?_range hi, List.getElem?_reverse hi, List.getElem?_eq_getElem (by omega)]
    simp
    rw [List.getElem?_eq_getElem (by omega)]
    rfl
  · rw [List.getElem?_eq_none (by simpa using hi), List.getElem?_eq_none (by simpa using hi)]
    rfl
theorem item_back {t sl : Addr} {items : List Value} {vl vu vs : Value} {Q : Value → Shared → Prop} (ht : IsTup s.heap t items.toArray) (hs : s.heap.IsSliceOf sl vl vu vs) (pl : IsPart vl none) (pu : IsPart vu none) (ps : IsPart vs (some (-1)))
    (h : Q (.ref s.heap.objs.size) { s with heap := s.heap.push { cls := .type "tuple", data := .seq items.reverse.toArray } }) (hz : items.length ≤ sizeLine) : wpAny (model prog w) A (getItem (.ref t) (.ref sl)) Q E s := by
  have hfit : sizeOk (.seq items.reverse.toArray) := by
    show items.reverse.toArray.size ≤ sizeLine
    rw [List.size_toArray, List.length_reverse]
    exact hz
  obtain ⟨os, o1, o2, o3⟩ := id hs
  have ty : s.TypeIs (.ref sl) "slice" := ⟨os, o1, o2⟩
  unfold getItem
  try with_reducible refine wpAny_holding ?_
  first
    | refine wpAny_bind (wpAny_pure ?_)
    | skip
  refine wpAny_bind (wpAny_sequenceKey ht.typeIs (by decide) ?_)
  refine wpAny_bind (wpAny_callSpecial?_slot (name := Str.ofString "__getitem__") ht.typeIs PyProof.Rows.slot_tuple_getitem (wpAny_call_entry PyProof.Rows.slot_tuple_getitem ht.typeIs entry_tuple_getitem ?_ (args_tuple_getitem _ _)))
  show wpAny _ _ (Builtin.Tuple.tupleItemsOf (.ref t) >>= _) _ _ s
  refine wpAny_bind (tupleItemsOf_ ht (wpAny_bind (wpAny_typeOf ty ?_)))
  rw [if_pos (by decide)]
  refine wpAny_bind (applied_back (n := items.toArray.size) hs pl pu ps ?_)
  have hno : ¬ ((((items.toArray.size : Nat) : Int) - 1 == 0 && (-1 : Int) == 1 && items.toArray.size == items.toArray.size) = true) := by
    intro q
    rw [Bool.and_eq_true, Bool.and_eq_true] at q
    exact absurd (eq_of_beq q.1.2) (by decide)
  show wpAny _ _ (if (((items.toArray.size : Nat) : Int) - 1 == 0 && (-1 : Int) == 1 && items.toArray.size == items.toArray.size) = true then _ else _) _ _ s
  rw [if_neg hno, List.size_toArray, pick_back]
  first
    | exact wpAny_bind (m := Builtin.Tuple.tupleExact _) (wpAny_newObj_type (wpAny_pure ⟨_, rfl, wpAny_pure h⟩) hfit)
    | exact wpAny_bind (m := Builtin.Tuple.tupleExact _) (wpAny_newObj_type (wpAny_bind (wpAny_pure (wpAny_pure ⟨_, rfl, wpAny_pure h⟩))) hfit)
    | exact wpAny_bind (wpAny_bind (m := Builtin.Tuple.tupleExact _) (wpAny_newObj_type (wpAny_pure (wpAny_pure ⟨_, rfl, wpAny_pure h⟩)) hfit))
    | exact wpAny_bind (wpAny_bind (m := Builtin.Tuple.tupleExact _) (wpAny_newObj_type (wpAny_pure ⟨_, rfl, wpAny_pure h⟩) hfit))
end
section
variable {X : Cx} {K : Fg}
def tRevT (K : Fg) (te : TE) : TE := fun σ H Q => te σ H fun x H1 => ∃ a xs, x = .ref a ∧ SqT K H1 a xs ∧ ∀ p, H1 p = none → Q (.ref p) (upd H1 p (.tup xs.reverse))
theorem pe_revT {e : Expr} {te : TE} {k : Nat} {p1 p2 p3 pos : Pos} (he : PE X e te) : PE X (.Subscript e (.Slice none none (some (.UnaryOp .USub (.Constant (.int 1) k p1) p2)) p3) pos) (tRevT X.K te) := by
  refine ⟨fun pins s σ H Q I h => Subscript_ (thn (he.run pins s σ H _ I h) fun v s1 ⟨x, H1, I1, r1, q1⟩ => ?_)⟩
  obtain ⟨a, xs, ex, hx, q⟩ := q1
  subst ex
  cases r1
  have back : PO X (some (.UnaryOp .USub (.Constant (.int 1) k p1) p2)) (tPart (tUn (rU fun i => .int (-i)) (tC (.int 1)))) := po_some (pe_un un_neg pe_int)
  refine wpAny_Slice (thn (po_none.run pins s1 σ H1 (fun o G => o = none ∧ G = H1) I1 ⟨rfl, rfl⟩) fun vl s2 ⟨l, G, I2, pl, g1, g2⟩ => ?_)
  cases g1
  cases g2
  refine thn (po_none.run pins s2 σ H1 (fun o G => o = none ∧ G = H1) I2 ⟨rfl, rfl⟩) fun vu s3 ⟨u, G, I3, pu, g1, g2⟩ => ?_
  cases g1
  cases g2
  refine thn (back.run pins s3 σ H1 (fun o G => o = some (-1) ∧ G = H1) I3 ⟨1, rfl, -1, rfl, rfl, rfl⟩) fun vs s4 ⟨o, G, I4, ps, g1, g2⟩ => ?_
  cases g1
  cases g2
  have I5 : Inv X pins σ H1 { s4 with heap := s4.heap.push { cls := .type "slice", data := .fields #[vl, vu, vs] } } := I4.kept (t' := s4.toks) fun b ob q => Heap.get?_push_of_some _ q
  obtain ⟨its, r, ht, hz⟩ := I5.tuple hx
  have hlen := r.length
  show wpAny (model X.prog X.w) X.A (subscriptTail e (.Slice none none (some (.UnaryOp .USub (.Constant (.int 1) k p1) p2)) p3) (.ref a) (.ref s4.heap.objs.size)) _ _ _
  refine tail_any (ops := [.ref a, .ref s4.heap.objs.size]) ht.typeIs PyProof.Rows.slot_tuple_getitem.lookup ?_ (by with_unfolding_all rfl)
  refine item_back ht (Heap.IsSliceOf.new _ vl vu vs) pl pu ps ?_ (by omega)
  refine ⟨.ref _, _, I5.laid (t' := s4.toks) (o := .tup xs.reverse) (fun b ob q => Heap.get?_push_of_some _ q) (Nat.le_refl _) ?_, rfl, q _ (I5.hok.fresh (Nat.le_refl _))⟩
  exact ⟨by rw [List.length_reverse]; exact hz, _, r.reverse, IsTup.new _ _⟩
def bRevT (a : BX) : BX := fun e P => a e fun s e1 => match itemsT s with
  | some ds => P (.fz (.tuple ds.reverse)) e1
  | none => False
theorem be_revT {x : Expr} {k : Nat} {p1 p2 p3 pos : Pos} {a : BX} (ha : BE X x a) : BE X (.Subscript x (.Slice none none (some (.UnaryOp .USub (.Constant (.int 1) k p1) p2)) p3) pos) (bRevT a) :=
  be_of (pe_revT ha) fun F0 B F H T τ env σ Q P r p w => se_B a F0 B F H T τ env σ _ _ r p fun s v F1 H1 e1 h1 q1 => by
    split at h1
    · rename_i ds e
      obtain ⟨b, vs, rfl, hq, _, hr⟩ := R.itemsT q1 e
      exact ⟨b, vs, rfl, hq, fun p hp => w _ _ _ _ _ h1 (q1.pop.newT hp hr.reverse)⟩
    · exact h1.elim

/-! tuple(range(a, b, -1)) -/
def downI (a : Int) (n : Nat) : List Int := (List.range n).map fun (i : Nat) => a - (i : Int)
def tDown (ta : TA) : TE := fun σ H Q => ta σ H fun vs H1 => ∃ a b : Int, vs = [.int a, .int b, .int (-1)] ∧ (b < a ∧ -1000 ≤ b ∧ a ≤ 1000) ∧ ∀ q, H1 q = none → Q (.ref q) (upd H1 q (.tup ((downI a (a - b).toNat).map V.int)))
theorem size_down {a b : Int} (h : b < a) : Builtin.Range.rangeSize a b (-1) = (((a - b).toNat : Nat) : Int) := by
  unfold Builtin.Range.rangeSize
  rw [if_neg (by decide), if_pos (by omega), show (- -1 : Int) = 1 from rfl, Int.ediv_one]
  omega
theorem small_down {a b : Int} (h : b < a ∧ -1000 ≤ b ∧ a ≤ 1000) : Builtin.Range.small a b (-1) = true := by
  unfold Builtin.Range.small
  rw [size_down h.1]
  simp only [Builtin.Range.rangeFitsLong, Bool.and_eq_true, Bool.or_eq_true, decide_eq_true_eq, beq_iff_eq, show ¬ ((-1 : Int) > 0) by decide, if_false]
  omega
theorem vals_down {a : Int} {n : Nat} {acc : Array Value} (h : ItemsOf (fun i v => ∃ t, v = .int (a + i * -1) t) acc n) : Vals ((downI a n).map V.int) acc.toList := by
  have e : acc.toList.length = n := by rw [Array.length_toList]; exact h.1
  unfold downI
  rw [List.map_map, ← e]
  refine vals_of_get acc.toList _ fun j u hj => ?_
  obtain ⟨t, rfl⟩ := h.2 j u (by rw [← hj, Array.getElem?_toList])
  exact ⟨t, by show Value.int (a + (j : Int) * -1) t = Value.int (a - (j : Int)) t; congr 1; omega⟩
theorem pe_down {x y z : Expr} {p p2 pos pos2 : Pos} {ta : TA} (hc : X.calm = true) (hg : Gl X "tuple") (hm : X.mg "tuple" = none) (hg2 : Gl X "range") (hm2 : X.mg "range" = none) (ha : PA X [x, y, z] ta)
    (hs : starEach [x, y, z] X.env = (false, eval x X.env) :: starEach [y, z] X.env := by rfl) (hpl : (backTo pos2 (starEach [y, z] X.env)).any (·.1) = false := by rfl)
    (na : starEach [(Expr.Call (.Name "range" p2) [x, y, z] [] pos2)] X.env = (false, eval (Expr.Call (.Name "range" p2) [x, y, z] [] pos2) X.env) :: starEach [] X.env := by rfl) :
    PE X (.Call (.Name "tuple" p) [.Call (.Name "range" p2) [x, y, z] [] pos2] [] pos) (tDown ta) := by
  refine ⟨fun pins s σ H Q I h => ?_⟩
  refine Call_ (ld_blt I hg hm boot_tuple (PyProof.Rows.callWith_type1 (args_cons (Call_ (ld_blt I hg2 hm2 boot_range (PyProof.Rows.callWith_type1 (thn (ha.run pos2 pins s σ H _ I h) fun us s1 ⟨vs, H1, I1, r1, q1⟩ => ?_) hs hpl))) na) na))
  obtain ⟨a, b, ex, ok, q⟩ := q1
  subst ex
  cases r1 with
  | cons t1 rr =>
    cases rr with
    | cons t2 rr =>
      cases rr with
      | cons t3 rr =>
        cases rr
        obtain ⟨k1, rfl⟩ := t1
        obtain ⟨k2, rfl⟩ := t2
        obtain ⟨k3, rfl⟩ := t3
        refine call_range_3 (by decide) (args_nil ?_)
        have I2 : Inv X pins σ H1 { s1 with heap := s1.heap.push { cls := .type "range", data := .fields #[.int a k1, .int b k2, .int (-1) k3] } } := I1.kept (t' := s1.toks) fun c u e => Heap.get?_push_of_some _ e
        refine call_tuple_range (n := (a - b).toNat) (I2.ok.hd hc) (IsRange.new _ _ _ _ _ _ _) (small_down ok) (size_down ok.1) (by omega) fun h' tk acc hk hi => ?_
        have I3 : Inv X pins σ H1 { s1 with heap := h', toks := tk } := I2.kept hk
        refine ⟨.ref h'.objs.size, _, I3.laid (t' := tk) (fun c o e => Heap.get?_push_of_some _ e) (Nat.le_refl _) (show ObjOk X.prog X.w _ _ _ (.tup ((downI a (a - b).toNat).map V.int)) from ⟨?_, acc.toList, vals_down hi, ?_⟩), rfl, q _ (I3.hok.fresh (Nat.le_refl _))⟩
        · rw [List.length_map]
          unfold downI
          rw [List.length_map, List.length_range, sizeLine_eq]
          omega
        · rw [Array.toArray_toList]
          exact IsTup.new _ _
def bDown (a : BA) : BX := fun e P => a e fun ss e1 => match ss with
  | [.fz (.int a), .fz (.int b), .fz (.int c)] => (c = -1 ∧ b < a ∧ -1000 ≤ b ∧ a ≤ 1000) ∧ P (.fz (.tuple ((downI a (a - b).toNat).map PyData.int))) e1
  | _ => False
theorem be_down {x y z : Expr} {p p2 pos pos2 : Pos} {a : BA} (hc : X.calm = true) (hg : Gl X "tuple") (hm : X.mg "tuple" = none) (hg2 : Gl X "range") (hm2 : X.mg "range" = none) (ha : BAs X [x, y, z] a)
    (hs : starEach [x, y, z] X.env = (false, eval x X.env) :: starEach [y, z] X.env := by rfl) (hpl : (backTo pos2 (starEach [y, z] X.env)).any (·.1) = false := by rfl)
    (na : starEach [(Expr.Call (.Name "range" p2) [x, y, z] [] pos2)] X.env = (false, eval (Expr.Call (.Name "range" p2) [x, y, z] [] pos2) X.env) :: starEach [] X.env := by rfl) :
    BE X (.Call (.Name "tuple" p) [.Call (.Name "range" p2) [x, y, z] [] pos2] [] pos) (bDown a) := be_of (pe_down hc hg hm hg2 hm2 ha hs hpl na) fun F0 B F H T τ env σ Q P r h w => sa_B a F0 B F H T τ env σ _ _ r h fun ss vs F1 H1 e1 h1 hl r1 => by
  split at h1
  · rename_i i j k
    obtain ⟨⟨rfl, ok⟩, h2⟩ := h1
    have hd := R.datas hl r1 (ds := [.int i, .int j, .int (-1)]) rfl
    cases hd with
    | cons h1 hd => cases hd with
      | cons h3 hd => cases hd with
        | cons h4 hd =>
          cases hd
          cases int_of h1
          cases int_of h3
          cases int_of h4
          exact ⟨i, j, rfl, ok, fun q hq => w _ _ _ _ _ h2 ((r1.popn hl).newT hq (RepA.ints _))⟩
  · exact h1.elim
end
end BV

set_option maxHeartbeats 1000000
/-! BV, part n: repr of data; wide division. -/
namespace BV
open PySem PySem.Spec PyProof.Rows L2

section
variable {X : Cx} {K : Fg}
/-- what repr shows, dicts left out -/
def Shows (d : PyData) : Prop := d.canLay0 = true ∧ d.showable = true ∧ d.depth ≤ 64 ∧ d.shown.length ≤ sizeLine
theorem cr_repr (hg : X.A.guards = some []) (hu : X.A.units + 65 < cLine) : CallR X (.builtin "repr") (fun xs H Q => ∃ a d, xs = [.ref a] ∧ Dp X.K H (.ref a) d ∧ Shows d ∧ Q (.str d.shown) H) := by
  intro pins s σ H xs us Q I r h
  obtain ⟨a, d, rfl, hd, ⟨h1, h2, h3, h4⟩, q⟩ := h
  obtain ⟨u, rfl, ru⟩ := r.one
  obtain rfl : u = Value.ref a := ru
  obtain ⟨as, rd⟩ := Dp.reads I d (.ref a) (.ref a) hd rfl
  refine repr_of_reads' (h₀ := s.heap) rd h2 (PyData.noDict_hsm (PyData.hasDict_of_canLay d h1)) hg (by omega) (fun _ _ e => e) (fun h' u tk hk => ?_) h4
  exact ⟨.str d.shown, H, I.kept hk, ⟨u, rfl⟩, q⟩
def isRefD : PyData → Bool
  | .list _ => true
  | .tuple _ => true
  | _ => false
def b1Repr : B1 := fun s e P => asView s e fun d => (isRefD d = true ∧ Shows d) ∧ P (.fz (.str d.shown)) e
theorem cq_repr (hg : X.A.guards = some []) (hu : X.A.units + 65 < cLine) : CallQ X (.builtin "repr") (one1 b1Repr) := ⟨_, cr_repr hg hu, sl_one fun F0 B F H T τ env σ s v Q P r h w => by
  obtain ⟨d, e, ⟨h1, h2⟩, h⟩ := asView_of h
  have rd := R.view r e
  cases rd with
  | lst hq ha => exact ⟨_, _, rfl, (Rep.lst hq ha).dp h2.1, h2, w.fz r.pop (.str _) h⟩
  | tup hq ha => exact ⟨_, _, rfl, (Rep.tup hq ha).dp h2.1, h2, w.fz r.pop (.str _) h⟩
  | _ => cases h1⟩
theorem be_fdivW {x y : Expr} {pos : Pos} {a b : BX} (ha : BE X x a) (hb : BE X y b) : BE X (.BinOp x .FloorDiv y pos) (bOp (bIC CDivW fun i j => i / j) a b) := be_op op_fdivW (s2_I fun _ _ _ => .int _) ha hb
end
end BV

set_option maxHeartbeats 1000000
/-! BV, part o: the deck of the laws k01 .. k11: a dict of a list of ints and an int. -/
namespace BV
open PySem L2

def kDeep : Key := .inr "deep"
def kState : Key := .inr "state"
def deckV (l : Addr) (s : Int) : List (Key × V) := [(kDeep, .ref l), (kState, .int s)]
def deckA (ns : List Int) (s : Int) : Ab where
  at' := fun H own a => own a ∧ ∃ l, own l ∧ l ≠ a ∧ H a = some (.dK (deckV l s)) ∧ H l = some (.lst (ns.map V.int))
  mono := fun hh ho ⟨x, l, y, ne, e1, e2⟩ => ⟨ho _ x, l, ho _ y, ne, (hh _ x).trans e1, (hh _ y).trans e2⟩
  root := fun h => h.1
def dk (ns : List Int) (s : Int) : Sl := .ow (.ab (deckA ns s))
theorem keys_ne : ¬ kDeep = kState := by decide
theorem keys_ne' : ¬ kState = kDeep := by decide
theorem deck_deep {l : Addr} {s : Int} : valV (deckV l s) kDeep = some (.ref l) := valV_pos rfl
theorem deck_state {l : Addr} {s : Int} : valV (deckV l s) kState = some (.int s) := (valV_neg keys_ne).trans (valV_pos rfl)
theorem deck_putS {l : Addr} {s s' : Int} : putK (deckV l s) kState (.int s') = deckV l s' := by
  unfold putK deckV
  simp [keys_ne]
theorem deck_putD {l l' : Addr} {s : Int} : putK (deckV l s) kDeep (.ref l') = deckV l' s := by
  unfold putK deckV
  simp [keys_ne']

section
variable {K : Fg} {F0 B F G H H' : Hp} {T S : List Sl} {τ ν vs : List V} {env : List Sl} {σ : L2.St} {c : Col} {v w : V} {d : PyData} {s : Sl} {o : Ow} {i j : Nat} {ns : List Int} {st : Int}
theorem R.deck (r : R K F0 B F H T τ env σ) (h : env[i]? = some (dk ns st)) : ∃ a l, σ[i]? = some (some (.ref a)) ∧ l ≠ a ∧ H a = some (.dK (deckV l st)) ∧ H l = some (.lst (ns.map V.int)) ∧
    (∀ st', R K F0 B F (upd H a (.dK (deckV l st'))) T τ (env.set i (dk ns st')) σ) ∧ ∀ ns', R K F0 B F (upd H l (.lst (ns'.map V.int))) T τ (env.set i (dk ns' st)) σ := by
  obtain ⟨c, q⟩ := r
  obtain ⟨a, e, ca, l, cl, ne, ha, hl⟩ := q.slt i _ h
  have live : ∀ (x : Addr) (u : HO), (c x = some (.inr i)) → ∀ b, c b = some (.inr i) → upd H x u b ≠ none := fun x u hx b hb => by
    by_cases z : b = x
    · subst z
      rw [upd_same]
      exact fun z => nomatch z
    · rw [upd_ne z]
      exact (q.col b (by rw [hb]; exact fun z => nomatch z)).2.2
  refine ⟨a, l, e, ne, ha, hl, fun st' => ⟨c, q.mut h (fun b hb => upd_ne fun z => hb (z ▸ ca)) (live a _ ca) fun a' e' => ?_⟩, fun ns' => ⟨c, q.mut h (fun b hb => upd_ne fun z => hb (z ▸ cl)) (live l _ cl) fun a' e' => ?_⟩⟩
  · rw [e] at e'
    cases e'
    exact ⟨ca, l, cl, ne, upd_same, (upd_ne ne).trans hl⟩
  · rw [e] at e'
    cases e'
    exact ⟨ca, l, cl, ne, (upd_ne ne.symm).trans ha, upd_same⟩
end

section
variable {X : Cx} {K : Fg} {pos p p1 p2 : Pos} {jj jj2 : Nat}
/-- deck["state"] -/
def bDkS (i : Nat) : BX := fun e P => ∃ ns st, e[i]? = some (dk ns st) ∧ P (.fz (.int st)) e
theorem dget_state {H : Hp} {a l : Addr} {st : Int} (h : H a = some (.dK (deckV l st))) : DGet H a (.str "state") (some (.int st)) := by
  have := DGet.k (k := kState) h
  rw [deck_state] at this
  exact this
theorem dget_deep {H : Hp} {a l : Addr} {st : Int} (h : H a = some (.dK (deckV l st))) : DGet H a (.str "deep") (some (.ref l)) := by
  have := DGet.k (k := kDeep) h
  rw [deck_deep] at this
  exact this
theorem pe_dk (i : Nat) {x z : Str} (hu : X.A.units + 1 < cLine) (hN : X.N[i]? = some x) (hv : Vis X.env.scope x) (hd : (x == ("__debug__" : Str)) = false) (hcd : (x == ("__classdict__" : Str)) = false) : PE X (.Subscript (.Name x p1) (.Constant (.str z) jj p2) pos) (tDGet (tVar i) (tC (.str z))) :=
  pe_dget hu (pe_var hN hv hd hcd) pe_str (fun _ _ => rfl)
theorem be_dkS (i : Nat) {x : Str} (hu : X.A.units + 1 < cLine) (hN : X.N[i]? = some x := by rfl) (hv : Vis X.env.scope x := by first | exact Or.inl rfl | exact Or.inr (Or.inl rfl) | exact Or.inr (Or.inr rfl)) (hd : (x == ("__debug__" : Str)) = false := by decide)
    (hcd : (x == ("__classdict__" : Str)) = false := by decide) : BE X (.Subscript (.Name x p1) (.Constant (.str "state") jj p2) pos) (bDkS i) := be_of (pe_dk i hu hN hv hd hcd) fun F0 B F H T τ env σ Q P r h w => by
  obtain ⟨ns, st, e, h⟩ := h
  obtain ⟨a, l, ea, _, ha, _, _⟩ := R.deck r e
  exact ⟨.ref a, ea, a, .int st, rfl, dget_state ha, w.fz r (.int _) h⟩
/-- deck["deep"] != [] -/
def bDkD (i : Nat) : BT := fun e P => ∃ ns st, e[i]? = some (dk ns st) ∧ P (!ns.isEmpty) e
theorem intsDp (K : Fg) (H : Hp) : ∀ ns : List Int, DpAll K H (ns.map V.int) (ns.map PyData.int)
  | [] => .nil
  | n :: ns => .cons (.int n) (intsDp K H ns)
theorem shaped_ints : ∀ ns : List Int, SeqAt.shaped (.list (ns.map PyData.int)) = true := fun ns => by
  have h1 : ∀ ns : List Int, PyData.canLayAll0 (ns.map PyData.int) = true := fun ns => by
    induction ns with
    | nil => rfl
    | cons n ns ih => simpa [PyData.canLayAll0, PyData.canLay0] using ih
  have h2 : ∀ ns : List Int, PyData.depthAll (ns.map PyData.int) ≤ 1 := fun ns => by
    induction ns with
    | nil => simp [PyData.depthAll]
    | cons n ns ih => simp only [List.map_cons, PyData.depthAll, PyData.depth]; omega
  unfold SeqAt.shaped
  rw [Bool.and_eq_true, decide_eq_true_eq]
  refine ⟨by simpa [PyData.canLay0] using h1 ns, ?_⟩
  have := h2 ns
  simp only [PyData.depth]
  omega
theorem eqv_nil (ns : List Int) : PyData.eqv (.list (ns.map PyData.int)) (.list []) = ns.isEmpty := by
  cases ns with
  | nil => decide
  | cons n ns => simp [PyData.eqv, PyData.eqvAll]
theorem bt_dkD (i : Nat) {x : Str} {pos3 : Pos} (hu : X.A.units + 64 < cLine) (hN : X.N[i]? = some x := by rfl) (hv : Vis X.env.scope x := by first | exact Or.inl rfl | exact Or.inr (Or.inl rfl) | exact Or.inr (Or.inr rfl)) (hd : (x == ("__debug__" : Str)) = false := by decide)
    (hcd : (x == ("__classdict__" : Str)) = false := by decide) (hm : behindInMarks .NotEq (.List [] p) = false := by first | exact nomark _ | rfl) : BTs X (.Compare (.Subscript (.Name x p1) (.Constant (.str "deep") jj p2) pos) [.NotEq] [.List [] p] pos3) (bDkD i) :=
  bt_of (pt_cmpR (op_neD hu) (pe_dk i (by omega) hN hv hd hcd) (pe_lst pa_nil) hm) fun F0 B F H T τ env σ Q P r h w => by
    obtain ⟨ns, st, e, h⟩ := h
    obtain ⟨a, l, ea, _, ha, hl, _⟩ := R.deck r e
    refine ⟨.ref a, ea, a, .ref l, rfl, dget_deep ha, Nat.zero_le _, fun q hq => ?_⟩
    have nl : l ≠ q := fun z => by
      subst z
      rw [hq] at hl
      cases hl
    refine ⟨.list (ns.map PyData.int), .list [], .lst (.of ((upd_ne nl).trans hl)) (intsDp _ _ ns), .lst (.of upd_same) .nil, shaped_ints ns, shaped_ints [], ?_⟩
    rw [eqv_nil]
    exact ⟨_, rfl, w _ _ _ _ h (r.laid0 hq _)⟩
/-- deck["deep"].pop() -/
def bDkP (i : Nat) : BX := fun e P => ∃ ns n st, e[i]? = some (dk (ns ++ [n]) st) ∧ P (.fz (.int n)) (e.set i (dk ns st))
theorem tyL {H : Hp} {l : Addr} {vs : List V} (h : H l = some (.lst vs)) : tyV K "list" (.ref l) H := .inl ⟨rfl, _, .of h⟩
theorem be_dkP (i : Nat) {x : Str} {apos cpos : Pos} (hu : X.A.units + 1 < cLine) (hN : X.N[i]? = some x := by rfl) (hv : Vis X.env.scope x := by first | exact Or.inl rfl | exact Or.inr (Or.inl rfl) | exact Or.inr (Or.inr rfl)) (hd : (x == ("__debug__" : Str)) = false := by decide)
    (hcd : (x == ("__classdict__" : Str)) = false := by decide)
    (hbase : attributeBase (.Subscript (.Name x p1) (.Constant (.str "deep") jj p2) pos) "pop" X.env (eval (.Subscript (.Name x p1) (.Constant (.str "deep") jj p2) pos) X.env) = eval (.Subscript (.Name x p1) (.Constant (.str "deep") jj p2) pos) X.env := by rfl) (hline : (apos.endLine == cpos.line) = true := by rfl) :
    BE X (.Call (.Attribute (.Subscript (.Name x p1) (.Constant (.str "deep") jj p2) pos) "pop" apos) [] [] cpos) (bDkP i) :=
  be_of (pe_bm0 PySem.F.plainAttrs_list PySem.F.slot_list_pop PySem.F.type_list_pop mt_pop (pe_dk i hu hN hv hd hcd) hbase hline) fun F0 B F H T τ env σ Q P r h w => by
    obtain ⟨ns, n, st, e, h⟩ := h
    obtain ⟨a, l, ea, _, ha, hl, _, up⟩ := R.deck r e
    refine ⟨.ref a, ea, a, .ref l, rfl, dget_deep ha, tyL hl, l, _, .int n, rfl, rfl, hl, by simp, ?_⟩
    have e2 : ((ns ++ [n]).map V.int).dropLast = ns.map V.int := by simp
    rw [e2]
    exact w.fz (up ns) (.int n) h
/-- deck["deep"].append(m // n) -/
def bDkA (i j k : Nat) : BX := fun e P => ∃ ns st m n, e[i]? = some (dk ns st) ∧ e[j]? = some (.fz (.int m)) ∧ e[k]? = some (.fz (.int n)) ∧ CDivW m n ∧ ns.length < sizeLine ∧ P (.fz .none) (e.set i (dk (ns ++ [m / n]) st))
theorem be_dkA (i j k : Nat) {x y z : Str} {p3 p4 p5 apos cpos : Pos} (hu : X.A.units + 1 < cLine) (hNi : X.N[i]? = some x := by rfl) (hvi : Vis X.env.scope x := by first | exact Or.inl rfl | exact Or.inr (Or.inl rfl) | exact Or.inr (Or.inr rfl)) (hdi : (x == ("__debug__" : Str)) = false := by decide)
    (hcdi : (x == ("__classdict__" : Str)) = false := by decide)(hNj : X.N[j]? = some y := by rfl) (hvj : Vis X.env.scope y := by first | exact Or.inl rfl | exact Or.inr (Or.inl rfl) | exact Or.inr (Or.inr rfl)) (hdj : (y == ("__debug__" : Str)) = false := by decide)
    (hcdj : (y == ("__classdict__" : Str)) = false := by decide)(hNk : X.N[k]? = some z := by rfl) (hvk : Vis X.env.scope z := by first | exact Or.inl rfl | exact Or.inr (Or.inl rfl) | exact Or.inr (Or.inr rfl)) (hdk : (z == ("__debug__" : Str)) = false := by decide)
    (hcdk : (z == ("__classdict__" : Str)) = false := by decide)
    (hbase : attributeBase (.Subscript (.Name x p1) (.Constant (.str "deep") jj p2) pos) "append" X.env (eval (.Subscript (.Name x p1) (.Constant (.str "deep") jj p2) pos) X.env) = eval (.Subscript (.Name x p1) (.Constant (.str "deep") jj p2) pos) X.env := by rfl)
    (hfew : ((backTo cpos (starEach ((.BinOp (.Name y p3) .FloorDiv (.Name z p4) p5) :: []) X.env)).all (fun x => !x.1) && (backToKw cpos (keywordEach [] X.env)).all (fun x => x.1.isSome)
      && decide (((Expr.BinOp (.Name y p3) .FloorDiv (.Name z p4) p5) :: ([] : List Expr)).length + ([] : List Keyword).length + (if ([] : List Keyword).isEmpty then 0 else 1) < 30)) = true := by rfl)
    (hline : (apos.endLine == cpos.line) = true := by rfl) (hs : starEach [(Expr.BinOp (.Name y p3) .FloorDiv (.Name z p4) p5)] X.env = (false, eval (.BinOp (.Name y p3) .FloorDiv (.Name z p4) p5) X.env) :: starEach [] X.env := by rfl) (hplain : (backTo cpos (starEach [] X.env)).any (·.1) = false := by rfl) :
    BE X (.Call (.Attribute (.Subscript (.Name x p1) (.Constant (.str "deep") jj p2) pos) "append" apos) [.BinOp (.Name y p3) .FloorDiv (.Name z p4) p5] [] cpos) (bDkA i j k) :=
  be_of (pe_bm PySem.F.plainAttrs_list PySem.F.slot_list_append PySem.F.type_list_append mt_append (pe_dk i hu hNi hvi hdi hcdi) (pa_cons (pe_op op_fdivW (pe_var hNj hvj hdj hcdj) (pe_var hNk hvk hdk hcdk)) pa_nil hs) hbase hfew hline hs hplain) fun F0 B F H T τ env σ Q P r h w => by
    obtain ⟨ns, st, m, n, e, ej, ek, hd, hz, h⟩ := h
    obtain ⟨a, l, ea, hne, ha, hl, _, up⟩ := R.deck r e
    obtain ⟨v1, e1, h1⟩ := r.slot_fz ej
    obtain ⟨v2, e2, h2⟩ := r.slot_fz ek
    cases int_of h1
    cases int_of h2
    refine ⟨.ref a, ea, a, .ref l, rfl, dget_deep ha, tyL hl, _, e1, _, e2, m, n, rfl, rfl, hd, l, _, .int (m / n), rfl, rfl, hl, by simpa using hz, ?_⟩
    have e3 : ns.map V.int ++ [.int (m / n)] = (ns ++ [m / n]).map V.int := by simp
    rw [e3]
    exact w.fz (up _) .non h
/-- deck["state"] = e -/
def bDkPut (i : Nat) (a : BX) : BS := fun E env => a env fun s e1 => asInt s fun n => ∃ ns st, e1[i]? = some (dk ns st) ∧ E.nx (e1.set i (dk ns n))
theorem bs_dkPut (i : Nat) {x : Str} {y : Expr} {a : BX} {ps : List Nat} {spos : Pos} (hu : X.A.units + 1 < cLine) (hy : BE X y a) (hN : X.N[i]? = some x := by rfl) (hv : Vis X.env.scope x := by first | exact Or.inl rfl | exact Or.inr (Or.inl rfl) | exact Or.inr (Or.inr rfl)) (hd : (x == ("__debug__" : Str)) = false := by decide)
    (hcd : (x == ("__classdict__" : Str)) = false := by decide)
    (hs : swapsWith y (some (.Subscript (.Name x p1) (.Constant (.str "state") jj p2) pos)) spos.line X.env = pure false := by rfl) : BSt X ps (.Assign [.Subscript (.Name x p1) (.Constant (.str "state") jj p2) pos] y spos) (bDkPut i a) :=
  bs_of (ps_dput hu (pe_var hN hv hd hcd) pe_str hy hs) fun F0 B F H T τ env σ D E hp r h w => se_B a F0 B F H T τ env σ _ _ r h fun s v F1 H1 e1 h1 r1 => by
    obtain ⟨n, rfl, ns, st, e, h2⟩ := asInt_of h1
    cases int_of r1.top_fz
    obtain ⟨a, l, ea, hne, ha, hl, up, _⟩ := R.deck r1.pop e
    refine ⟨.ref a, ea, a, _, rfl, DPut.k (k := kState) ha (by show 2 < sizeLine; rw [sizeLine_eq]; omega), ?_⟩
    rw [deck_putS]
    exact w.nx _ _ _ _ h2 (up n)
end
section
variable {K : Fg} {F0 B F G H H' : Hp} {T S : List Sl} {τ ν vs : List V} {env : List Sl} {σ : L2.St} {c : Col} {v w : V} {d : PyData} {s : Sl} {o : Ow} {i j : Nat} {ns : List Int} {st : Int} {p l : Addr}
/-- a new list goes into the deck -/
theorem R.dkSwap (r : R K F0 B F H T τ env σ) (h : env[i]? = some (dk ns st)) (hp : H p = none) {a : Addr} (hea : σ[i]? = some (some (.ref a))) (ns' : List Int) : R K F0 B F (upd (upd H p (.lst (ns'.map V.int))) a (.dK (deckV p st))) T τ (env.set i (dk ns' st)) σ := by
  obtain ⟨c, q⟩ := r
  obtain ⟨fp, bp, cp⟩ := q.fresh hp
  obtain ⟨a', e, ca, l, cl, ne, ha, hl⟩ := q.slt i _ h
  rw [hea] at e
  cases e
  have pa : p ≠ a := fun z => by
    subst z
    rw [cp] at ca
    cases ca
  have hi : i < env.length := (List.getElem?_eq_some_iff.mp h).1
  let c' : Col := fun x => if x = p then some (.inr i) else c x
  have cs : c' p = some (.inr i) := if_pos rfl
  have cn : ∀ x, x ≠ p → c' x = c x := fun x hx => if_neg hx
  have keep : ∀ x, x ≠ p → x ≠ a → (upd (upd H p (.lst (ns'.map V.int))) a (.dK (deckV p st))) x = H x := fun x h1 h2 => by rw [upd_ne h2, upd_ne h1]
  have notF : ∀ x u, F x = some u → x ≠ p ∧ x ≠ a := fun x u hx => ⟨fun z => (by subst z; rw [fp] at hx; cases hx), fun z => (by subst z; rw [(q.col x (by rw [ca]; exact fun z => nomatch z)).1] at hx; cases hx)⟩
  have notB : ∀ x u, B x = some u → x ≠ p ∧ x ≠ a := fun x u hx => ⟨fun z => (by subst z; rw [bp] at hx; cases hx), fun z => (by subst z; rw [(q.col x (by rw [ca]; exact fun z => nomatch z)).2.1] at hx; cases hx)⟩
  refine ⟨c', ⟨q.f0, fun x u hx => (keep x (notF x u hx).1 (notF x u hx).2).trans (q.fh x u hx), fun x u hx => (keep x (notB x u hx).1 (notB x u hx).2).trans (q.bh x u hx), q.nw, q.len, by simp [q.le], fun x hx => ?_, fun j s v h1 h2 => ?_, fun k s h1 => ?_⟩⟩
  · by_cases z : x = p
    · subst z
      refine ⟨fp, bp, ?_⟩
      rw [upd_ne pa, upd_same]
      exact fun z => nomatch z
    · rw [cn x z] at hx
      obtain ⟨e1, e2, e3⟩ := q.col x hx
      refine ⟨e1, e2, ?_⟩
      by_cases z2 : x = a
      · subst z2
        rw [upd_same]
        exact fun z => nomatch z
      · rw [keep x z z2]
        exact e3
  · have nep : ∀ x, c x = some (.inl j) → x ≠ p ∧ x ≠ a := fun x hx => ⟨fun z => (by subst z; rw [cp] at hx; cases hx), fun z => (by subst z; rw [ca] at hx; cases hx)⟩
    exact (q.tmp j s v h1 h2).mono (Sub.refl _) (fun x hx => keep x (nep x hx).1 (nep x hx).2) fun x hx => (cn x (nep x hx).1).trans hx
  · by_cases hk : k = i
    · subst hk
      rw [List.getElem?_set_self hi] at h1
      cases h1
      exact ⟨a, hea, (cn a pa.symm).trans ca, p, cs, pa, upd_same, (upd_ne pa).trans upd_same⟩
    · rw [List.getElem?_set_ne (Ne.symm hk)] at h1
      have nep : ∀ x, c x = some (.inr k) → x ≠ p ∧ x ≠ a := fun x hx => ⟨fun z => (by subst z; rw [cp] at hx; cases hx), fun z => (by subst z; rw [ca] at hx; injection hx with hx; injection hx with hx; exact hk hx.symm)⟩
      exact (q.slt k s h1).mono (Sub.refl _) (fun x hx => keep x (nep x hx).1 (nep x hx).2) fun x hx => (cn x (nep x hx).1).trans hx
/-- a frame that is kept beside -/
theorem R.aside {u : HO} (r : R K F0 B F H T τ env σ) (hp : H p = none) : R K F0 (upd B p u) F (upd H p u) T τ env σ := by
  obtain ⟨c, q⟩ := r
  obtain ⟨fp, bp, cp⟩ := q.fresh hp
  have ne : ∀ x, c x ≠ none → x ≠ p := fun x hx e => hx (e ▸ cp)
  refine ⟨c, ⟨q.f0, fun a o e => Sub.new hp a o (q.fh a o e), Sub.upd2 q.bh, fun a ha => ?_, q.len, q.le, fun x hx => ?_, fun j s v h1 h2 => ?_, fun i s h1 => ?_⟩⟩
  · rcases q.nw a ha with z | z
    · exact .inl z
    · by_cases e : a = p
      · subst e
        exact absurd fp ha
      · exact .inr ((upd_ne e).trans z)
  · rw [upd_ne (ne x hx), upd_ne (ne x hx)]
    exact q.col x hx
  · exact (q.tmp j s v h1 h2).mono (Sub.refl _) (fun x hx => upd_ne (ne x (by rw [hx]; exact fun z => nomatch z))) fun _ z => z
  · exact (q.slt i s h1).mono (Sub.refl _) (fun x hx => upd_ne (ne x (by rw [hx]; exact fun z => nomatch z))) fun _ z => z
/-- .. and a deck made of it and a new list -/
theorem R.dkNew {u : HO} (r : R K F0 (upd B p u) F H (T ++ [.ow (.lst (ns.map PyData.int))]) (τ ++ [.ref l]) env σ) (hb : B p = none) (hf : F0 p = none) : R K F0 B F (upd H p (.dK (deckV l st))) (T ++ [dk ns st]) (τ ++ [.ref p]) env σ := by
  obtain ⟨c, q⟩ := r
  have hB : (upd B p u) p = some u := upd_same
  have cp : c p = none := by
    cases e : c p with
    | none => rfl
    | some y =>
      rw [(q.col p (by rw [e]; exact fun z => nomatch z)).2.1] at hB
      cases hB
  have fp : F p = none := by
    cases e : F p with
    | none => rfl
    | some y =>
      rcases q.nw p (by rw [e]; exact fun z => nomatch z) with z | z
      · exact absurd hf z
      · rw [hB] at z
        cases z
  have ne : ∀ x, c x ≠ none → x ≠ p := fun x hx e => hx (e ▸ cp)
  have hl : T.length = τ.length := by
    have := q.len
    simp at this
    exact this
  obtain ⟨_, e, cl, vs, hlst, hr⟩ := q.tmp T.length (.ow (.lst (ns.map PyData.int))) (.ref l) snoc_last (by rw [hl]; exact snoc_last)
  cases e
  have ev := hr.ints_of
  subst ev
  have pl : l ≠ p := ne l (by rw [cl]; exact fun z => nomatch z)
  let c' : Col := fun x => if x = p then some (.inl T.length) else c x
  have cs : c' p = some (.inl T.length) := if_pos rfl
  have cn : ∀ x, x ≠ p → c' x = c x := fun x hx => if_neg hx
  refine ⟨c', ⟨q.f0, fun x o hx => ?_, fun x o hx => ?_, fun x hx => ?_, by simp [hl], q.le, fun x hx => ?_, fun j s v h1 h2 => ?_, fun k s h1 => ?_⟩⟩
  · rw [upd_ne (fun z => by rw [z, fp] at hx; cases hx)]
    exact q.fh x o hx
  · have nx : x ≠ p := fun z => by
      rw [z, hb] at hx
      cases hx
    rw [upd_ne nx]
    exact q.bh x o ((upd_ne nx).trans hx)
  · rcases q.nw x hx with z | z
    · exact .inl z
    · by_cases e : x = p
      · subst e
        exact .inr hb
      · rw [upd_ne e] at z
        exact .inr z
  · by_cases z : x = p
    · subst z
      exact ⟨fp, hb, by rw [upd_same]; exact fun z => nomatch z⟩
    · rw [cn x z] at hx
      obtain ⟨e1, e2, e3⟩ := q.col x hx
      rw [upd_ne z] at e2 ⊢
      exact ⟨e1, e2, e3⟩
  · rcases get_snoc h1 with ⟨hj, e⟩ | ⟨rfl, rfl⟩
    · have w := q.tmp j s v (by rw [List.getElem?_append_left hj]; exact e) (by
        rw [List.getElem?_append_left (by omega)] at h2 ⊢
        exact h2)
      exact w.mono (Sub.refl _) (fun x hx => upd_ne (ne x (by rw [hx]; exact fun z => nomatch z))) fun x hx => (cn x (ne x (by rw [hx]; exact fun z => nomatch z))).trans hx
    · rw [hl, snoc_last] at h2
      cases h2
      exact ⟨p, rfl, cs, l, (cn l pl).trans cl, pl, upd_same, (upd_ne pl).trans hlst⟩
  · exact (q.slt k s h1).mono (Sub.refl _) (fun x hx => upd_ne (ne x (by rw [hx]; exact fun z => nomatch z))) fun x hx => (cn x (ne x (by rw [hx]; exact fun z => nomatch z))).trans hx
end
section
variable {X : Cx} {K : Fg} {pos p p1 p2 : Pos} {jj jj2 : Nat}
/-- {"deep": [], "state": e} -/
def bDkNew (a : BX) : BX := fun e P => a e fun s e1 => asInt s fun n => P (dk [] n) e1
theorem be_dkNew {y : Expr} {a : BX} {k1 k2 : Nat} {q1 q2 : Pos} (hy : BE X y a) : BE X (.Dict [some (.Constant (.str "deep") k1 q1), some (.Constant (.str "state") k2 q2)] [.List [] p, y] pos) (bDkNew a) :=
  be_of (pe_disp (pps_cons pe_str (pe_lst pa_nil) (pps_cons pe_str hy pps_nil)) rfl rfl (by simp) (by simp)) fun F0 B F H T τ env σ Q P r h w => by
    intro p hp
    have hfb : F p = none ∧ B p = none := let ⟨c, q⟩ := r; ⟨(q.fresh hp).1, (q.fresh hp).2.1⟩
    have hf0 : F0 p = none := by
      cases e : F0 p with
      | none => rfl
      | some u =>
        have : F p = some u := let ⟨c, q⟩ := r; q.f0 p u e
        rw [hfb.1] at this
        cases this
    have r1 := R.aside (u := .dK []) r hp
    refine ⟨Nat.zero_le _, fun q hq => ?_⟩
    have r2 := r1.newL (ds := []) hq .nil
    refine se_B a F0 (upd B p (.dK [])) F _ (T ++ [.ow (.lst [])]) (τ ++ [.ref q]) env σ _ _ r2 h fun s v F1 H1 e1 h1 r3 => ?_
    obtain ⟨n, rfl, h2⟩ := asInt_of h1
    cases int_of r3.top_fz
    have hB : H1 p = some (.dK []) := let ⟨c, q⟩ := r3; q.bh p _ upd_same
    refine ⟨hB, deckV q n, rfl, (show 2 ≤ 15 by omega), ?_⟩
    have e2 : mergeK [] (deckV q n) = deckV q n := by
      unfold mergeK deckV
      simp [putK, keys_ne]
    rw [e2]
    exact w _ _ _ _ _ h2 (R.dkNew (ns := []) r3.pop hfb.2 hf0)
/-- deck["deep"] = [whole] + deck["deep"] -/
def bDkCat (i j : Nat) : BS := fun E env => ∃ ns st n, env[i]? = some (dk ns st) ∧ env[j]? = some (.fz (.int n)) ∧ ns.length < sizeLine ∧ E.nx (env.set i (dk (n :: ns) st))
theorem bs_dkCat (i j : Nat) {x y : Str} {ps : List Nat} {k1 k2 : Nat} {q1 q2 q3 q4 q5 spos : Pos} (hu : X.A.units + 1 < cLine) (hNi : X.N[i]? = some x := by rfl) (hvi : Vis X.env.scope x := by first | exact Or.inl rfl | exact Or.inr (Or.inl rfl) | exact Or.inr (Or.inr rfl)) (hdi : (x == ("__debug__" : Str)) = false := by decide)
    (hcdi : (x == ("__classdict__" : Str)) = false := by decide)(hNj : X.N[j]? = some y := by rfl) (hvj : Vis X.env.scope y := by first | exact Or.inl rfl | exact Or.inr (Or.inl rfl) | exact Or.inr (Or.inr rfl)) (hdj : (y == ("__debug__" : Str)) = false := by decide)
    (hcdj : (y == ("__classdict__" : Str)) = false := by decide)
    (hs : swapsWith (Expr.BinOp (.List [.Name y q1] q2) .Add (.Subscript (.Name x q3) (.Constant (.str "deep") k2 q4) q5) pos) (some (.Subscript (.Name x p1) (.Constant (.str "deep") k1 p2) p)) spos.line X.env = pure false := by rfl) :
    BSt X ps (.Assign [.Subscript (.Name x p1) (.Constant (.str "deep") k1 p2) p] (.BinOp (.List [.Name y q1] q2) .Add (.Subscript (.Name x q3) (.Constant (.str "deep") k2 q4) q5) pos) spos) (bDkCat i j) :=
  bs_of (ps_dput hu (pe_var hNi hvi hdi hcdi) pe_str (pe_op op_cat (pe_lst (pa_cons (pe_var hNj hvj hdj hcdj) pa_nil)) (pe_dk i hu hNi hvi hdi hcdi)) hs) fun F0 B F H T τ env σ D E hp r h w => by
    obtain ⟨ns, st, n, e, ej, hz, h⟩ := h
    obtain ⟨v, e1, h1⟩ := r.slot_fz ej
    cases int_of h1
    obtain ⟨a, l, ea, hne, ha, hl, _, _⟩ := R.deck r e
    refine ⟨_, e1, by show 1 ≤ sizeLine; rw [sizeLine_eq]; omega, fun q hq => ?_⟩
    have qa : a ≠ q := fun z => by
      subst z
      rw [hq] at ha
      cases ha
    have ql : l ≠ q := fun z => by
      subst z
      rw [hq] at hl
      cases hl
    have r1 := r.laid0 hq (.lst [V.int n])
    refine ⟨.ref a, ea, a, .ref l, rfl, dget_deep ((upd_ne qa).trans ha), q, l, [.int n], ns.map V.int, rfl, rfl, upd_same, (upd_ne ql).trans hl, by simp; omega, fun p hp => ?_⟩
    have pa : a ≠ p := fun z => by
      subst z
      rw [(upd_ne qa).trans ha] at hp
      cases hp
    refine ⟨.ref a, ea, a, _, rfl, DPut.k (k := kDeep) ((upd_ne pa).trans ((upd_ne qa).trans ha)) (by show 2 < sizeLine; rw [sizeLine_eq]; omega), ?_⟩
    rw [deck_putD]
    exact w.nx _ _ _ _ h (R.dkSwap r1 e hp ea (n :: ns))
end
end BV

set_option maxHeartbeats 1000000
/-! BV, part p: three and four names at once. -/
namespace BV
open PySem L2
section
variable {X : Cx} {K : Fg} {ps : List Nat}
theorem pin_plain {T S : List Sl} (h : PinOk ps T) (hs : plainB S = true) : PinOk ps (T ++ S) := h.app (plain_of hs)
/-- a, b, c = x, y, z -/
def bPar3 (i j l : Nat) (a : BA) : BS := fun E env => a env fun ss e1 => match ss with
  | [s, t, u] => (plainB [s] = true ∧ plainB [s, t] = true) ∧ gStore l u e1 fun e2 => gStore j t e2 fun e3 => gStore i s e3 E.nx
  | _ => False
theorem bs_par3 (i j l : Nat) {x y z : Str} {p q o : Expr} {px py pz pt pos : Pos} {kt : Nat} {k2 : Nat} {pt2 : Pos} {a : BA} (hc : X.calm = true) (hN : X.N.Nodup) (ha : BAs X [p, q, o] a) (hi : X.N[i]? = some x := by rfl) (hj : X.N[j]? = some y := by rfl) (hl : X.N[l]? = some z := by rfl)
    (hij : i ≠ j := by decide) (hil : i ≠ l := by decide) (hjl : j ≠ l := by decide) (hx : X.env.scope.names.lookup x = some .local := by rfl) (hy : X.env.scope.names.lookup y = some .local := by rfl) (hz : X.env.scope.names.lookup z = some .local := by rfl) (h1 : i ∉ ps := by decide) (h2 : j ∉ ps := by decide) (h3 : l ∉ ps := by decide)
    (h : ∀ ta, PA X [p, q, o] ta → PS X (.Assign [.Tuple [.Name x px, .Name y py, .Name z pz] kt pt] (.Tuple [p, q, o] k2 pt2) pos) (tPar3 i j l ta) := by
      intro ta hta
      exact ps_par3 (by rfl) (by assumption) rfl rfl rfl (by decide) (by decide) (by decide) rfl rfl rfl hta (by rfl)) : BSt X ps (.Assign [.Tuple [.Name x px, .Name y py, .Name z pz] kt pt] (.Tuple [p, q, o] k2 pt2) pos) (bPar3 i j l a) :=
  bs_of (h _ ha) fun F0 B F H T τ env σ D E hp r q w => sa_B a F0 B F H T τ env σ _ _ r q fun ss vs F1 H1 e1 q1 hl r1 => by
    match ss, vs, q1, hl, r1 with
    | [s, t, u], [v1, v2, v3], ⟨⟨p1, p2⟩, q1⟩, _, r1 =>
      refine ⟨v1, v2, v3, rfl, ?_⟩
      have r2 : R X.K F0 B F1 H1 (T ++ [s] ++ [t] ++ [u]) (τ ++ [v1] ++ [v2] ++ [v3]) e1 σ := by simpa [List.append_assoc] using r1
      have e : ((σ.set i (some v1)).set j (some v2)).set l (some v3) = ((σ.set l (some v3)).set j (some v2)).set i (some v1) := by
        rw [List.set_comm _ _ hij, List.set_comm _ _ hil, List.set_comm _ _ hjl]
      rw [e]
      exact sg_name h3 F0 B F1 H1 (T ++ [s] ++ [t]) (τ ++ [v1] ++ [v2]) e1 σ u v3 _ _ (by have := pin_plain hp p2; simpa using this) r2 q1 fun F2 H2 e2 σ2 q2 r3 => sg_name h2 F0 B F2 H2 (T ++ [s]) (τ ++ [v1]) e2 σ2 t v2 _ _ (pin_plain hp p1) r3 q2 fun F3 H3 e3 σ3 q3 r4 =>
        sg_name h1 F0 B F3 H3 T τ e3 σ3 s v1 _ _ hp r4 q3 fun F4 H4 e4 σ4 q4 r5 => w.nx _ _ _ _ q4 r5
/-- a, b, c, d = x, y, z, u: by way of a tuple -/
def bTup4 (i j l m : Nat) (a : BA) : BS := fun E env => a env fun ss e1 => match ss with
  | [s, t, u, v] => (plainB [s] = true ∧ plainB [s, t] = true ∧ plainB [s, t, u] = true) ∧ gStore m v e1 fun e2 => gStore l u e2 fun e3 => gStore j t e3 fun e4 => gStore i s e4 E.nx
  | _ => False
theorem bs_tup4 (i j l m : Nat) {x y z w : Str} {es : List Expr} {px py pz pw pt pos : Pos} {kt : Nat} {k2 : Nat} {pt2 : Pos} {a : BA} (hc : X.calm = true) (hN : X.N.Nodup) (ha : BAs X es a) (hi : X.N[i]? = some x := by rfl) (hj : X.N[j]? = some y := by rfl) (hl : X.N[l]? = some z := by rfl) (hm : X.N[m]? = some w := by rfl)
    (hd : (i ≠ j ∧ i ≠ l ∧ i ≠ m) ∧ (j ≠ l ∧ j ≠ m) ∧ l ≠ m := by decide) (hx : X.env.scope.names.lookup x = some .local := by rfl) (hy : X.env.scope.names.lookup y = some .local := by rfl) (hz : X.env.scope.names.lookup z = some .local := by rfl) (hw : X.env.scope.names.lookup w = some .local := by rfl)
    (h1 : i ∉ ps := by decide) (h2 : j ∉ ps := by decide) (h3 : l ∉ ps := by decide) (h4 : m ∉ ps := by decide)
    (s1 : swapsWithSole [.Tuple [.Name x px, .Name y py, .Name z pz, .Name w pw] kt pt] (.Tuple es k2 pt2) pos.line X.env = pure false := by rfl) (s2 : swappedStores [.Tuple [.Name x px, .Name y py, .Name z pz, .Name w pw] kt pt] (.Tuple es k2 pt2) X.env = pure none := by rfl)
    (s3 : (assignEach [(Expr.Tuple [.Name x px, .Name y py, .Name z pz, .Name w pw] kt pt)] X.env).map (·.2) = [assign (.Tuple [.Name x px, .Name y py, .Name z pz, .Name w pw] kt pt) X.env] := by rfl)
    (s4 : (assignEach [(Expr.Name w pw)] X.env).map (·.2) = assign (.Name w pw) X.env :: (assignEach [] X.env).map (·.2) := by rfl)
    (s5 : (assignEach [(Expr.Name z pz), .Name w pw] X.env).map (·.2) = assign (.Name z pz) X.env :: (assignEach [.Name w pw] X.env).map (·.2) := by rfl)
    (s6 : (assignEach [(Expr.Name y py), .Name z pz, .Name w pw] X.env).map (·.2) = assign (.Name y py) X.env :: (assignEach [.Name z pz, .Name w pw] X.env).map (·.2) := by rfl)
    (s7 : (assignEach [(Expr.Name x px), .Name y py, .Name z pz, .Name w pw] X.env).map (·.2) = assign (.Name x px) X.env :: (assignEach [.Name y py, .Name z pz, .Name w pw] X.env).map (·.2) := by rfl)
    (s8 : (assignEach [(Expr.Name x px), .Name y py, .Name z pz, .Name w pw] X.env).length = 4 := by rfl) (s9 : (assignEach [(Expr.Name x px), .Name y py, .Name z pz, .Name w pw] X.env).findIdx? (·.1) = none := by rfl) :
    BSt X ps (.Assign [.Tuple [.Name x px, .Name y py, .Name z pz, .Name w pw] kt pt] (.Tuple es k2 pt2) pos) (bTup4 i j l m a) :=
  bs_of (ps_asg (pe_tup ha) (pg_tup (n := 4) hc (pgs_cons (pg_name hN hi (.inl hx) (.inr hx)) (pgs_cons (pg_name hN hj (.inl hy) (.inr hy)) (pgs_cons (pg_name hN hl (.inl hz) (.inr hz)) (pgs_cons (pg_name hN hm (.inl hw) (.inr hw)) pgs_nil s4) s5) s6) s7) s8 s9) s1 s2 s3) fun F0 B F H T τ env σ D E hp r q w => sa_B a F0 B F H T τ env σ _ _ r q fun ss vs F1 H1 e1 q1 hl r1 => by
    match ss, vs, q1, hl, r1 with
    | [s, t, u, v], [v1, v2, v3, v4], ⟨⟨p1, p2, p3⟩, q1⟩, _, r1 =>
      refine ⟨by show 4 ≤ sizeLine; rw [sizeLine_eq]; omega, fun p hp' => ?_⟩
      refine ⟨p, [v1, v2, v3, v4], rfl, .of upd_same, rfl, v1, _, rfl, v2, _, rfl, v3, _, rfl, v4, _, rfl, rfl, ?_⟩
      have r2 : R X.K F0 B F1 (upd H1 p (.tup [v1, v2, v3, v4])) (T ++ [s] ++ [t] ++ [u] ++ [v]) (τ ++ [v1] ++ [v2] ++ [v3] ++ [v4]) e1 σ := by
        have := r1.laid0 hp' (.tup [v1, v2, v3, v4])
        simpa [List.append_assoc] using this
      obtain ⟨⟨d1, d2, d3⟩, ⟨d4, d5⟩, d6⟩ := hd
      have e : (((σ.set i (some v1)).set j (some v2)).set l (some v3)).set m (some v4) = (((σ.set m (some v4)).set l (some v3)).set j (some v2)).set i (some v1) := by
        rw [List.set_comm _ _ d1, List.set_comm _ _ d2, List.set_comm _ _ d3, List.set_comm _ _ d4, List.set_comm _ _ d5, List.set_comm _ _ d6]
      show D.nx ((((σ.set i (some v1)).set j (some v2)).set l (some v3)).set m (some v4)) _
      rw [e]
      exact sg_name h4 F0 B F1 _ (T ++ [s] ++ [t] ++ [u]) (τ ++ [v1] ++ [v2] ++ [v3]) e1 σ v v4 _ _ (by have := pin_plain hp p3; simpa using this) r2 q1 fun F2 H2 e2 σ2 q2 r3 =>
        sg_name h3 F0 B F2 H2 (T ++ [s] ++ [t]) (τ ++ [v1] ++ [v2]) e2 σ2 u v3 _ _ (by have := pin_plain hp p2; simpa using this) r3 q2 fun F3 H3 e3 σ3 q3 r4 =>
        sg_name h2 F0 B F3 H3 (T ++ [s]) (τ ++ [v1]) e3 σ3 t v2 _ _ (pin_plain hp p1) r4 q3 fun F4 H4 e4 σ4 q4 r5 =>
        sg_name h1 F0 B F4 H4 T τ e4 σ4 s v1 _ _ hp r5 q4 fun F5 H5 e5 σ5 q5 r6 => w.nx _ _ _ _ q5 r6
end
end BV

set_option maxHeartbeats 1000000
/-! BV, part q: errors of one's own: raised, caught. -/
namespace BV
open PySem PySem.Spec PyProof.Rows L2

section
variable {K : Fg} {F0 B F G H H' : Hp} {T S : List Sl} {τ ν vs : List V} {env : List Sl} {σ : L2.St} {n : Nat}
/-- nothing told of names or temporaries -/
theorem R.bare (r : R K F0 B F H T τ env σ) : R K F0 B F H [] [] [] [] := by
  obtain ⟨c, q⟩ := r
  exact ⟨fun _ => none, ⟨q.f0, q.fh, q.bh, q.nw, rfl, rfl, fun b hb => absurd rfl hb, fun j s v h1 h2 => by simp at h1, fun i s h1 => by simp at h1⟩⟩
abbrev PhX := List Sl → (Sl → List Sl → Prop) → (Value → Prop) → Prop
/-- what a def promises that may raise an error of a class -/
def spX (K : Fg) (n : Nat) (ph : PhX) : Sp := fun vs H Q E => ∃ F B args P PX, args.length = n ∧ args.length = vs.length ∧ Plain args ∧ R K F B F H args vs [] [] ∧ ph args P PX ∧
  (∀ s v outs F' H', P s outs → outs.length = n → Plain (outs ++ [s]) → R K F B F' H' (outs ++ [s]) (vs ++ [v]) [] [] → Q v H') ∧ ∀ cls F' H', PX cls → R K F B F' H' [] [] [] [] → E cls none H'
/-- a call of such a def with known values -/
theorem S_callX {ph : PhX} {Q : VK} {P : Sl → Prop} {PX : Value → Prop} {E : XK} (r : R K F0 B F H (T ++ S) (τ ++ vs) env σ) (hl : S.length = vs.length) (hn : S.length = n) (hp : Plain S) (h : ph S (fun s _ => P s) PX)
    (w : ∀ s v F' H', P s → R K F0 B F' H' (T ++ [s]) (τ ++ [v]) env σ → Q v H') (wx : ∀ cls F' H', PX cls → R K F0 B F' H' T τ env σ → E cls none H') : spX K n ph vs H Q E := by
  obtain ⟨B', r1, back⟩ := r.call hl hp
  refine ⟨F, B', S, _, _, hn, hl, hp, r1, h, fun s v outs F' H' p ho hpo r2 => w s v F' H' p (R.drop (S := outs) (ν := vs) (back F' H' outs s v (by omega) hpo r2) (by omega)), fun cls F' H' p r2 => wx cls F' H' p ?_⟩
  have hu : ∀ {vs : List V} {T : List Sl} {τ : List V}, R K F B' F' H' T τ [] [] → R K F B' F' H' (T ++ List.replicate vs.length .un) (τ ++ vs) [] [] := by
    intro vs
    induction vs with
    | nil =>
      intro T τ r
      simpa using r
    | cons v vs ih =>
      intro T τ r
      have := ih (r.push_un (v := v))
      simpa [List.replicate_succ, List.append_assoc] using this
  have r3 := hu (vs := vs ++ [V.non]) r2
  have e : List.replicate (vs ++ [V.non]).length Sl.un = List.replicate S.length .un ++ [.un] := by
    rw [List.length_append, List.length_singleton, List.replicate_succ', hl]
  rw [e, List.nil_append, List.nil_append] at r3
  have r4 := back F' H' (List.replicate S.length .un) .un .non (by simp) (fun j i z => by
    rcases get_snoc z with ⟨_, z⟩ | ⟨_, z⟩
    · rw [List.getElem?_replicate] at z
      split at z
      · cases z
      · cases z
    · cases z) r3
  have r5 : R K F0 B F' H' (T ++ (List.replicate S.length .un ++ [.un])) (τ ++ (vs ++ [.non])) env σ := by simpa [List.append_assoc] using r4
  exact r5.popn (by simp [hl])
end

/-! statements at one frame: what is raised is known to it -/
def tsX (K : Fg) (F0 B : Hp) (ps : List Nat) (b : BS) : TS := fun D σ H => ∃ F T τ env E, PinOk ps T ∧ R K F0 B F H T τ env σ ∧ b E env ∧ EndOk K F0 B T τ E D
section
variable {X : Cx} {F0 B : Hp} {ps : List Nat}
theorem bx_of {st : Stmt} {b : BS} (h : BSt X ps st b) : PS X st (tsX X.K F0 B ps b) := ⟨fun pins s σ H D I ⟨F, T, τ, env, E, hp, r, p, w⟩ => h.run pins s σ H D I ⟨F0, B, F, T, τ, env, E, hp, r, p, w⟩⟩
theorem bxs_of {st : List Stmt} {b : BS} (h : BSs X ps st b) : PSs X st (tsX X.K F0 B ps b) := ⟨fun pins s σ H D I ⟨F, T, τ, env, E, hp, r, p, w⟩ => h.run pins s σ H D I ⟨F0, B, F, T, τ, env, E, hp, r, p, w⟩⟩
theorem bx_if {t : Expr} {p q : List Stmt} {pos : Pos} {c : BT} {a b : BS} (ht : BTs X t c) (ha : PSs X p (tsX X.K F0 B ps a)) (hb : PSs X q (tsX X.K F0 B ps b)) : PS X (.If t p q pos) (tsX X.K F0 B ps (bIfS c a b)) :=
  ⟨fun pins s σ H D I ⟨F, T, τ, env, E, hp, r, h, w⟩ => (ps_if ht ha hb).run pins s σ H D I (st_B c F0 B F H T τ env σ _ _ r h fun k F1 H1 e1 h1 r1 => by
    cases k with
    | true => exact ⟨F1, T, τ, e1, E, hp, r1, h1, w⟩
    | false => exact ⟨F1, T, τ, e1, E, hp, r1, h1, w⟩)⟩
theorem bx_cons {st : Stmt} {rest : List Stmt} {a b : BS} (ha : PS X st (tsX X.K F0 B ps a)) (hb : PSs X rest (tsX X.K F0 B ps b)) : PSs X (st :: rest) (tsX X.K F0 B ps (bSeq a b)) :=
  ⟨fun pins s σ H D I ⟨F, T, τ, env, E, hp, r, h, w⟩ => (pss_cons ha hb).run pins s σ H D I ⟨F, T, τ, env, { E with nx := b E }, hp, r, h, ⟨fun F' H' e' σ' p r' => ⟨F', T, τ, e', E, hp, r', p, w⟩, w.rt, w.bk, w.ct⟩⟩⟩
/-- raise C() -/
def bRaise (PX : Value → Prop) (C : Addr) : BS := fun _ _ => PX (.ref C)
theorem pmk_own00 {C : Addr} {bmB : List Value} {N newId initId : String} {x : Str} {p pos : Pos} (F : ExcBaseFacts N newId initId bmB) (q : PySem.W.excIn X.K C bmB newId = true) (gC : X.mg x = some (.ref C)) (kC : PySem.W.keepIn X.K (.ref C) = true) (r : Raises X (.ref C)) (hg : Gl X x)
    (hdb : (x == ("__debug__" : Str)) = false := by decide) : PMk X (.Call (.Name x p) [] [] pos) (fun _ H Q => Q (.ref C) none H) := by
  intro pins s σ H Q I h
  refine wpAny_Call_Name_kw (ld_glob I hg gC (PySem.W.callWith_K0 I.kIn kC ?_) hdb)
  obtain ⟨bm, N, nm, qn, bs, hdct, sn, sub, ab, col, dd, k0, k1, k2, k3, k5, mN, hC, hN, hni, T⟩ := exc_obj I.kIn q
  exact wpAny_call_exc_subT F T hC hN hni (fun h' e hm => mk_of I hm r h (I.hok.gone hm.new)) (Nat.zero_le _)
theorem bx_raise {PX : Value → Prop} {C : Addr} {W : WX} {e : Expr} {pos : Pos} (hc : X.calm = true) (tk : Takes X W) (he : PMk X e (fun _ H Q => Q (.ref C) none H)) (hW : PX (.ref C) → ∀ F H σ, R X.K F0 B F H [] [] [] [] → W (.ref C) none σ H) : PS X (.Raise (some e) none pos) (tsX X.K F0 B ps (bRaise PX C)) :=
  ⟨fun pins s σ H D I ⟨F, T, τ, env, E, hp, r, h, w⟩ => (ps_raise hc tk he).run pins s σ H D I (hW h F H σ r.bare)⟩
end

section
variable {P : Program} {w : World} {K : Fg} {mg : Str → Option Value} {base : Heap}
/-- THE RULE for a def that raises -/
theorem fgx_ok {x qual : Str} {st : Stmt} {f : Addr} {fd : FuncData} {N ps : List Str} {k n : Nat} {ph : PhX} (F : Fun K x qual st f fd) (S : FnScope N ps (defScope st)) (hn : ps.length = n) (shape : ∀ args Q QX, ph args Q QX → argsOk [] 0 args = true)
    (hbody : ∀ (cdv : Value) (A : Around) (outer : List Env) (s : Shared) (H : Hp) (E : XK), A.guards = some [] → Room k (A.deeper (PyProof.Rows.envOfC qual (defScope st) s.heap.objs.size f cdv)) → ∀ (F1 B1 : Hp) (args : List Sl) (Q : Sl → List Sl → Prop) (QX : Value → Prop), args.length = n → ph args Q QX →
      (∀ cls F' H', QX cls → R K F1 B1 F' H' [] [] [] [] → E cls none H') →
      ∃ b, PSs (cxOf (L2.CX P w) P w K mg base N qual (defScope st) f cdv A outer s H E) (defBody st) (tsX K F1 B1 [] b) ∧ b (endsF [] n Q) (args ++ List.replicate (N.length - n) .un)) : FnG P w K mg base (L2.CX P w) (k + 1) f fd ps (spX K n ph) := by
  obtain ⟨oc, od, kV, doc, pm, an, cdv, ct, osl, rfl, lk, hcd⟩ := F.ex
  refine ⟨fun us G Q E ⟨_, _, _, _, _, h1, h2, _⟩ => by omega, fun A outer s G ar us xs Q E hgd hr e0 hb rel hsp => ?_⟩
  obtain ⟨F1, B1, args, Pd, PX, ha, hal, hpl, r0, hph, back, backX⟩ := hsp
  have hxl : xs.length = ps.length := by omega
  have kin : K.In s.heap := e0.mod.kin.keeps fun b o e => (e0.bs b o e).1
  have nol : s.heap.NoLimit := e0.mod.nolimit.keeps fun b o e => (e0.bs b o e).1
  have hloc : ∀ y ∈ ps.zip us, (defScope st).names.lookup y.1 = some .local ∨ ((defScope st).names.lookup y.1 = some .cell ∧ ((cellsFrom (s.heap.objs.size + 1) (defScope st).names []).lookup y.1).isSome = true) := fun y hy =>
    (S.par y.1 (List.of_mem_zip (show (y.1, y.2) ∈ ps.zip us from hy)).1).imp id fun z => ⟨z, PySem.W.cellsFrom_some _ _ _ (.inl z)⟩
  refine codeAny_call_function hr.depth (kin _ _ lk) rfl S.co S.gen rfl (PySem.W.codeRec_of kin hcd) (hb _ _ _ _ (wpAny_newFunctionEnv_cells S.kind hloc fun env he s1 ic => ?_))
  subst he
  refine ⟨nol.keeps ic.toInCall.keep, codeAny_func ?_⟩
  obtain ⟨b, hbs, hb2⟩ := hbody cdv A outer s G E hgd (hr.deeper _) F1 B1 args Pd PX ha hph backX
  have I0 := inv_start (E := E) (CX := L2.CX P w) S hr.hd e0 hxl rel ic
  have hst : L2.start N xs = xs.map some ++ List.replicate (N.length - n) none := by
    unfold L2.start
    rw [show xs.length = n by omega]
  have r1 : R K F1 B1 F1 G [] [] (args ++ List.replicate (N.length - n) .un) (L2.start N xs) := by
    rw [hst]
    exact r0.enter (shape _ _ _ hph)
  have fin : ∀ {F' H' : Hp} {env' : BEnv} {σ' : L2.St} {s' : Sl} {v : V}, (∀ i, s' ≠ .al i) → Pd s' (outsOf [] n env') → R K F1 B1 F' H' [s'] [v] env' σ' → Q v H' := fun {F' H' env' σ' s' v} hs p r => by
    obtain ⟨r3, pl⟩ := R.leave (pins := []) (pv := []) (n := n) (vs := xs) r (by omega) hs rfl fun k j u h1 h2 => by simp at h1
    exact back s' v _ F' H' p outsOf_len pl r3
  have ends : EndOk K F1 B1 [] [] (endsF [] n Pd) { nx := fun _ H' => Q .non H', rt := Q } :=
    ⟨fun F' H' e' σ' p r => fin (fun i z => by cases z) p (r.push_fz .non), fun s' v F' H' e' σ' p r => by
      cases s' with
      | fz d => exact fin (fun i z => by cases z) p r
      | ow o => exact fin (fun i z => by cases z) p r
      | al i =>
        have p' : (match e'[i]? with | some (.ow o) => ([] : List Nat).contains i = false ∧ Pd (.ow o) (outsOf [] n e') | _ => False) := p
        split at p'
        · rename_i o e
          obtain ⟨hi, p1⟩ := p'
          have r' : R K F1 B1 F' H' ([] ++ .al i :: []) ([] ++ v :: []) e' σ' := r
          obtain ⟨r4, _⟩ := r'.take rfl e
          exact fin (s' := .ow o) (fun i z => by cases z) (by rw [outsOf_un hi]; exact p1) r4
        · exact p'.elim
      | _ => exact p.elim, fun _ _ _ _ p _ => p.elim, fun _ _ _ _ p _ => p.elim⟩
  have main := hbs.run [] s1 (L2.start N xs) G { nx := fun _ H' => Q .non H', rt := Q } I0 ⟨F1, [], [], _, _, fun j i e => by simp at e, r1, hb2, ends⟩
  refine wpAny_mono main (fun fl s' hs => ?_) fun e s' hs => hs
  match fl, hs with
  | .ret u, ⟨v, σ', H', J, rv, q⟩ => exact ⟨v, H', J.os, J.bare, J.base, J.hok, rv, q⟩
  | .next, ⟨σ', H', J, q⟩ => exact ⟨.non, H', J.os, J.bare, J.base, J.hok, rfl, q⟩
  | .brk, ⟨_, _, _, q⟩ => exact False.elim q
  | .cont, ⟨_, _, _, q⟩ => exact False.elim q
end

/-! a call that may let something out, at the slots of the moment -/
section
variable {X : Cx} {CX : CXT} {k : Nat} {f : Addr} {fd : FuncData} {ps : List Str} {sp : Sp} {E : L2.St → XK} {x : Str} {p pos : Pos} {e : Expr} {es : List Expr} {t : TA}
theorem goS {pins : List (Addr × Obj)} {σ : L2.St} {G : Hp} {s : Shared} {Q : VK} {us0 : List Value} {kw : List (Str × Value)} {us : List Value} {xs : List V} (F : FnG X.prog X.w X.K X.mg X.base CX k f fd ps sp) (hg : X.A.guards = some []) (hr : Room k X.A) (hx : ∀ σ, PassesAt CX X σ (E σ))
    (I : Inv X pins σ G s) (hb : BindsTo s fd ⟨us0, kw⟩ (ps.zip us)) (rel : Vals xs us) (h : sp xs G Q (E σ)) : wpAny (model X.prog X.w) X.A (call (.ref f) us0 kw) (EP X pins σ Q) X.xe s := by
  refine wpAny_call (codeAny_mono (F.runG X.A X.stack s G _ us xs Q (E σ) hg hr I.env0 hb rel h) fun res s' hq => ?_)
  match res, hq with
  | .ok (.ret u), hq => exact I.after hq
  | .ok .next, hq => exact hq.elim
  | .ok .brk, hq => exact hq.elim
  | .ok .cont, hq => exact hq.elim
  | .error ex, hq => exact hx σ pins G s ex s' I hq
theorem pgS_call (F : FnG X.prog X.w X.K X.mg X.base CX k f fd ps sp) (hgd : X.A.guards = some []) (hr : Room k X.A) (hx : ∀ σ, PassesAt CX X σ (E σ)) (hg : Gl X x) (hm : X.mg x = some (.ref f)) (kp : PySem.W.keepIn X.K (.ref f) = true) (hb : Binds X.K fd ps []) (ha : PA X (e :: es) t)
    (hdb : (x == ("__debug__" : Str)) = false := by decide) (he : starEach (e :: es) X.env = (false, eval e X.env) :: starEach es X.env := by rfl) (hpl : (backTo pos (starEach es X.env)).any (·.1) = false := by rfl) : PE X (.Call (.Name x p) (e :: es) [] pos) (tCallS sp E t) :=
  ⟨fun pins s σ G Q I h => wpAny_Call_Name_kw (ld_glob I hg hm (PySem.W.callWith_K (h₀ := X.base) I.ok.mod.kin kp (thn (ha.run pos pins s σ G _ I h) fun us s1 ⟨xs, G1, I1, rel, q⟩ => ⟨I1.kIn, by
    have hl : (us ++ []).length = ps.length := by
      rw [List.append_nil, ← rel.length]
      exact F.lenG _ _ _ _ q
    have b2 := hb s1 us I1.kIn hl
    rw [List.append_nil] at b2
    exact goS F hgd hr hx I1 b2 rel q⟩) he hpl) hdb)⟩
theorem pgS_callK0 {kws : List Keyword} {tk : TA} {ks : List Str} {g : List Value → List Value → List Value} {gV : List V → List V → List V} (F : FnG X.prog X.w X.K X.mg X.base CX k f fd ps sp) (hgd : X.A.guards = some []) (hr : Room k X.A) (hx : ∀ σ, PassesAt CX X σ (E σ)) (hg : Gl X x) (hm : X.mg x = some (.ref f)) (kp : PySem.W.keepIn X.K (.ref f) = true) (hb : KBinds X.K fd ps ks g gV) (hkw : PK X kws tk)
    (hall : (backToKw pos (keywordEach kws X.env)).all (·.1.isSome) = true := by rfl) (hks : (backToKw pos (keywordEach kws X.env)).filterMap (·.1) = ks := by rfl) (hdb : (x == ("__debug__" : Str)) = false := by decide)
    (hpl : ((backTo pos (starEach [] X.env)).any (·.1) || (backToKw pos (keywordEach kws X.env)).any (·.1.isNone)) = false := by rfl) : PE X (.Call (.Name x p) [] kws pos) (fun σ H Q => tk σ H fun zs H2 => sp (gV [] zs) H2 Q (E σ)) :=
  ⟨fun pins s σ G Q I h => wpAny_Call_Name_kw (ld_glob I hg hm (PySem.W.callWith_KW0 (h₀ := X.base) I.ok.mod.kin kp hall (thn (hkw.run pos pins s σ G _ I h) fun ws s2 ⟨zs, G2, I2, rz, q2⟩ => ⟨I2.kIn, by
      rw [hks]
      have r2 := hb.rel (vs := []) (us := []) .nil rz
      have hl : (g [] ws).length = ps.length := by
        rw [← r2.length]
        exact F.lenG _ _ _ _ q2
      exact goS F hgd hr hx I2 (hb.to s2 [] ws I2.kIn hl) r2 q2⟩) hpl) hdb)⟩
end

/-! isinstance of the error that was caught -/
structure ExcIs (K : Fg) (C : Addr) : Prop where
  cl : (PySem.W.clsIn K C).isSome = true
  ga : PySem.W.findIn K (.ref C) "__getattribute__" = some (some (.builtin "BaseException.__getattribute__"))
  gt : ∃ g, PySem.W.findIn K (.ref C) "__getattr__" = some g
  sb : PySem.W.subIn K (.ref C) (.type "BaseException") = some true
  cs : PySem.W.findIn K (.ref C) "__class__" = some (some (.builtin "object.__class__"))
  sn : PySem.W.specialIn K (.builtin "object.__class__") "__get__" = some (some (.builtin "getset_descriptor.__get__"))
  tk : PySem.W.takesIn K (.builtin "object.__class__") = some true
  mo : PySem.W.mroIn K C (.type "object") = some true
theorem isi_exc {X : Cx} {C D a : Addr} {oe : Obj} {b : Bool} (hC : ExcIs X.K C) (hpn : (a, oe) ∈ X.pn) (hz : Zc (.ref C) none oe) (hf : ∃ vs, oe.data = .fields vs) (h : PySem.W.kitOne X.K (.ref C) (.ref D) = some b) : CallR X (.builtin "isinstance") (fun xs H Q => xs = [.ref a, .ref D] ∧ Q (.bl b) H) := by
  intro pins s σ H xs us Q I r hq
  obtain ⟨rfl, q⟩ := hq
  obtain ⟨u1, u2, rfl, r1, r2⟩ := vals2 r
  cases (show u1 = Value.ref a from r1)
  cases (show u2 = Value.ref D from r2)
  obtain ⟨g, hg⟩ := hC.gt
  obtain ⟨vs, hvs⟩ := hf
  have ho : s.heap.get? a = some oe := (I.pin (a, oe) (List.mem_append_left _ hpn)).1
  refine PySem.W.kia_one (PySem.W.kitx_exc (x := a) (ox := oe) (od := none) hC.cl hC.ga hg hC.sb hC.cs hC.sn hC.tk hC.mo) I.kIn ⟨ho, hz.1, ?_, ?_⟩ h (fun z => nomatch z) fun tk => ⟨.bl b, H, I.tok tk, rfl, q⟩
  · unfold PySem.W.notCls
    rw [hvs]
  · rw [hz.2]
    trivial
end BV

set_option maxHeartbeats 1000000
/-! BV, part r: known defs, called; an empty dict. -/
namespace BV
open PySem L2
/-- a def that is known: its promise, its place, how it binds -/
structure Fn (P : Program) (w : World) (K : Fg) (mg : Str → Option Value) (base : Heap) (CX : CXT) (k : Nat) (x : Str) (st : Stmt) (ps : List Str) (sp : Sp) : Prop where
  ex : ∃ (f : Addr) (fd : FuncData), mg x = some (.ref f) ∧ PySem.W.keepIn K (.ref f) = true ∧ Fun K x x st f fd ∧ Binds K fd ps [] ∧ FnG P w K mg base CX k f fd ps sp
def sw2 {α : Type} : List α → List α → List α
  | [], [a, b] => [b, a]
  | _, _ => []
section
variable {X : Cx} {k : Nat} {st : Stmt} {ps : List Str} {n : Nat} {ph : Ph} {x : Str} {p pos : Pos} {e : Expr} {es : List Expr}
theorem be_callF {b : BA} (F : Fn X.prog X.w X.K X.mg X.base CX0 k x st ps (spB X.K n ph)) (hgd : X.A.guards = some []) (hr : Room k X.A) (hg : Gl X x) (ha : BAs X (e :: es) b)
    (hdb : (x == ("__debug__" : Str)) = false := by decide) (he : starEach (e :: es) X.env = (false, eval e X.env) :: starEach es X.env := by rfl) (hpl : (backTo pos (starEach es X.env)).any (·.1) = false := by rfl) : BE X (.Call (.Name x p) (e :: es) [] pos) (bCall n ph b) := by
  obtain ⟨f, fd, hm, kp, _, hb, G⟩ := F.ex
  exact be_call G hgd hr hg hm kp hb ha hdb he hpl
theorem be_callF2 {kws : List Keyword} {ks : List Str} {b : BA} {a1 a2 : Str} (F : Fn X.prog X.w X.K X.mg X.base CX0 k x st ps (spB X.K n ph)) (hgd : X.A.guards = some []) (hr : Room k X.A) (hg : Gl X x) (hkw : BKs X kws b)
    (hb : ∀ (f : Addr) (fd : FuncData), Fun X.K x x st f fd → KBinds X.K fd ps ks sw2 sw2)
    (hall : (backToKw pos (keywordEach kws X.env)).all (·.1.isSome) = true := by rfl) (hks : (backToKw pos (keywordEach kws X.env)).filterMap (·.1) = ks := by rfl) (hdb : (x == ("__debug__" : Str)) = false := by decide)
    (hpl : ((backTo pos (starEach [] X.env)).any (·.1) || (backToKw pos (keywordEach kws X.env)).any (·.1.isNone)) = false := by rfl) : BE X (.Call (.Name x p) [] kws pos) (bCallK n ph (sw2 []) b) := by
  obtain ⟨f, fd, hm, kp, FF, _, G⟩ := F.ex
  refine be_callK0 G hgd hr hg hm kp (hb f fd FF) hkw (fun F vs ds r => ?_) hall hks hdb hpl
  unfold sw2
  cases r with
  | nil => exact .nil
  | cons r1 r =>
    cases r with
    | nil => exact .nil
    | cons r2 r =>
      cases r with
      | nil => exact .cons r2 (.cons r1 .nil)
      | cons r3 r => exact .nil
/-- {} -/
theorem be_dict0 : BE X (.Dict [] [] pos) (bC (.ow (.dK []))) := be_of pe_dnewK fun F0 B F H T τ env σ Q P r h w => fun p hp => w _ _ _ _ _ h (r.newO hp (.dK []) ⟨rfl, [], upd_same, rfl, .nil⟩)
/-- l != [], whatever stands in l -/
def rNeE (K : Fg) : R2 := fun x y H Q => ∃ l b xs, x = .ref l ∧ y = .ref b ∧ SqL K H l xs ∧ SqL K H b [] ∧ Q (.bl (!xs.isEmpty)) H
theorem op_neE (hu : X.A.units + 1 < cLine) : OpR X (compareOp .NotEq) (rNeE X.K) := by
  intro pins s σ H x y v u Q I rx ry h
  obtain ⟨l, b, xs, rfl, rfl, hl, hb, q⟩ := h
  cases rx
  cases ry
  obtain ⟨its, r1, p1, _⟩ := I.list hl
  obtain ⟨its2, r2, p2, _⟩ := I.list hb
  cases r2
  cases xs with
  | nil =>
    cases r1
    exact PySem.SeqAt.RcNeAt.lists p1.isList p2.isList (e := fun _ => true) rfl (by omega) (fun j h1 _ => absurd h1 (by simp)) X.prog X.w _ _ ⟨.bl false, H, I, rfl, q⟩
  | cons x xs =>
    cases r1 with
    | cons ra rb =>
      exact PySem.SeqAt.RcNeAt.lists_lengths p1.isList p2.isList (by simp) (by omega) X.prog X.w _ _ ⟨.bl true, H, I, rfl, q⟩
def bNeE : B2 := fun s t e P => match itemsL e s with
  | some ds => itemsL e t = some [] ∧ P (.fz (.bool (!ds.isEmpty))) e
  | none => False
theorem cr_neE (hu : X.A.units + 1 < cLine) : Cq X .NotEq bNeE := ⟨_, op_neE hu, fun F0 B F H T τ env σ s t x y Q P r h w => by
  unfold bNeE at h
  split at h
  · rename_i ds e
    obtain ⟨e2, h⟩ := h
    obtain ⟨a, us, rfl, ha, ra⟩ := R.itemsL r.pop e
    obtain ⟨b, vs, rfl, hb, rb⟩ := R.itemsL r e2
    cases rb
    refine ⟨a, b, us, rfl, rfl, ha, hb, ?_⟩
    have e3 : us.isEmpty = ds.isEmpty := by cases ra <;> rfl
    rw [e3]
    exact w.fz r (.bl _) h
  · exact h.elim⟩
/-! what comes back is of a kind -/
def bAsI (a : BX) : BX := fun e P => a e fun s e1 => match s with
  | .fz (.int i) => P (.fz (.int i)) e1
  | _ => False
def bAsB (a : BX) : BX := fun e P => a e fun s e1 => match s with
  | .fz (.bool i) => P (.fz (.bool i)) e1
  | _ => False
def bAsD (a : BX) : BX := fun e P => a e fun s e1 => match s with
  | .fz d => P (.fz d) e1
  | _ => False
def bAsO (a : BX) : BX := fun e P => a e fun s e1 => match s with
  | .ow (.lst ds) => P (.ow (.lst ds)) e1
  | _ => False
section
variable {y : Expr} {a : BX}
theorem be_asI (h : BE X y a) : BE X y (bAsI a) := be_of h fun F0 B F H T τ env σ Q P r p w => se_B a F0 B F H T τ env σ _ _ r p fun s v F1 H1 e1 h1 q1 => by
  split at h1
  · exact w _ _ _ _ _ h1 q1
  · exact h1.elim
theorem be_asB (h : BE X y a) : BE X y (bAsB a) := be_of h fun F0 B F H T τ env σ Q P r p w => se_B a F0 B F H T τ env σ _ _ r p fun s v F1 H1 e1 h1 q1 => by
  split at h1
  · exact w _ _ _ _ _ h1 q1
  · exact h1.elim
theorem be_asD (h : BE X y a) : BE X y (bAsD a) := be_of h fun F0 B F H T τ env σ Q P r p w => se_B a F0 B F H T τ env σ _ _ r p fun s v F1 H1 e1 h1 q1 => by
  split at h1
  · exact w _ _ _ _ _ h1 q1
  · exact h1.elim
theorem be_asO (h : BE X y a) : BE X y (bAsO a) := be_of h fun F0 B F H T τ env σ Q P r p w => se_B a F0 B F H T τ env σ _ _ r p fun s v F1 H1 e1 h1 q1 => by
  split at h1
  · exact w _ _ _ _ _ h1 q1
  · exact h1.elim
end
end
end BV

set_option maxHeartbeats 400000
/-! k04, part a: the texts, the short defs. -/
namespace BV
open PySem L2
theorem hu65 {k : Nat} {A : Around} (hr : Room k A) : A.units + 65 < cLine := by
  have := hr.un
  omega
theorem ifB {b : Bool} {A B : Prop} (h1 : b = true → A) (h2 : b = false → B) : if b = true then A else B := by
  cases b with
  | true =>
    rw [if_pos rfl]
    exact h1 rfl
  | false =>
    rw [if_neg Bool.false_ne_true]
    exact h2 rfl
theorem atI_0 {α : Type} {a : α} {l : List α} : atI (a :: l) 0 = some a := by
  unfold atI ixN
  simp
theorem atI_1 {α : Type} {a b : α} {l : List α} : atI (a :: b :: l) 1 = some b := by
  unfold atI ixN
  rw [if_pos (by omega), if_pos (by simp only [List.length_cons]; omega)]
  rfl
theorem cut_to {ds : List PyData} {n : Int} (h : (ds.length : Int) ≤ n) : cutD ds none (some n) = ds := by
  unfold cutD
  have e1 : HT.sIx ds.length 0 none = 0 := rfl
  have e2 : HT.sIx ds.length ds.length (some n) = ds.length := by
    simp only [HT.sIx]
    split <;> omega
  rw [e1, e2]
  simp
theorem atEnv {b : BS} {E : BEnds} {e : BEnv} (e' : BEnv) (h : e = e') (hb : b E e') : b E e := h ▸ hb
end BV
namespace K4
open PySem L2 BV
def top (i : Nat) : Stmt := PySem.Challenge.pw_swapstops_k04_whole_numbers_of_standings.main.body.getD i (.Pass ⟨0, 0, 0, 0⟩)
theorem boot_bool_ : bootBuiltins "bool" = some (.type "bool") := by decide +kernel
structure Txt (mg : Str → Option Value) : Prop where
  n_bool : mg "bool" = none
  n_tuple : mg "tuple" = none
  n_isinstance : mg "isinstance" = none
  n_abs : mg "abs" = none
  n_int : mg "int" = none
  n_sorted : mg "sorted" = none
  n_range : mg "range" = none
  n_list : mg "list" = none
  n_len : mg "len" = none
  n_repr : mg "repr" = none
  n_str : mg "str" = none
section
variable {P : Program} {w : World} {K : Fg} {mg : Str → Option Value} {base : Heap} {f : Addr} {fd : FuncData}

abbrev st_is_integer : Stmt := top 4
abbrev N_is_integer : List Str := ["value"]
theorem sc_is_integer : FnScope N_is_integer ["value"] (defScope st_is_integer) := ⟨rfl, rfl, rfl, by decide +kernel, rfl, by decide +kernel, by decide +kernel⟩
def isIntD : PyData → Bool
  | .int _ => true
  | _ => false
def ph_is_integer : Ph := fun args Q => ∃ d, args = [.fz d] ∧ Q (.fz (.bool (isIntD d))) [.un]
theorem ok_is_integer (T : Txt mg) (F : Fun K "is_integer" "is_integer" st_is_integer f fd) : FnG P w K mg base CX0 1 f fd ["value"] (spB K 1 ph_is_integer) :=
  fg_ok (pins := []) F sc_is_integer rfl (by decide) (fun args Q ⟨d, e, _⟩ => by subst e; rfl) fun cdv A outer s H E hgd hr args Q hl h => by
    obtain ⟨d, rfl, h⟩ := h
    refine ⟨_, (bss_one (bs_ret (be_and (be_isi "int" (by decide) rfl T.n_isinstance rfl T.n_int PyProof.Rows.boot_int (bv 0)) (be_one (be_notV (be_isi "bool" (by decide) rfl T.n_isinstance rfl T.n_bool boot_bool_ (bv 0))))))), ?_⟩
    refine atEnv [.fz d] rfl ?_
    simp only [bSeq, bRet, bAsg, bPar, bPar3, bTup4, gStore, bIfS, bNext, bDrop, bVar, bC, bOp, bUn, bII, bIC, bIB, asInts, asInt, asBool, asStrs, asStr, asView, vw, bCons, bNil, bTup, bLst, bFz, Ow.dat, bCB, one1, b1Len, lenD, b1List, b1Tuple, itemsOf, itemsL, itemsT, b1Int, b1Abs, b1Str, bIsi, bB, bAnd, bOr, bNot, bAndV, bOrV, bNotV, bChain, bIf, bIx, bMt, isL, mOwn, asDatas, datas, Option.map_some, fAppend, fPop, fPopAt, fRemove, mIndex, bCatL, ownL, bCatT, bRepL, bInI, bRevL, bRevT, bSl, oNone, oSome, bLstRg1, bTupRg1, bDown, bCall, callW, plainB, bCallK, List.getElem?_cons_zero, List.getElem?_cons_succ, List.set_cons_zero, List.set_cons_succ, endsF, intsD_map, b1Sorted, biTup, biSeq, biR1, biR2, b1Repr, isRefD, bAsI, bAsB, bAsD, bAsO, bNeE, atI_0, atI_1, dk, gTupB, gTups, bRaise, bDkS, bDkD, bDkP, bDkA, bDkPut, bDkNew, bDkCat]
    cases d <;> exact h

end
/-! the number of a row -/
def stp (s : List Int × Int) (t : Int) : List Int × Int := (s.1.eraseIdx ((idxI s.1 t).getD 0), s.2 * (s.1.length : Int) + (((idxI s.1 t).getD 0 : Nat) : Int))
def rgI (m : Nat) : List Int := (List.range m).map fun (i : Nat) => (i : Int)
def rank (left ns : List Int) : Int := (ns.foldl stp (left, 0)).2
theorem idx_perm {t : Int} : ∀ {left rest : List Int}, left.Perm (t :: rest) → ∃ j, idxI left t = some j ∧ j < left.length ∧ (left.eraseIdx j).Perm rest
  | [], rest, h => by simpa using h.length_eq
  | x :: xs, rest, h => by
    by_cases e : x = t
    · subst e
      exact ⟨0, by simp [idxI], by simp, by simpa using h⟩
    · have hx : x ∈ t :: rest := h.subset (List.mem_cons_self ..)
      have hx2 : x ∈ rest := by
        rcases List.mem_cons.mp hx with z | z
        · exact absurd z e
        · exact z
      have h2 : xs.Perm (t :: rest.erase x) := by
        have h3 := h.trans (((List.perm_cons_erase hx2).cons t).trans (.swap x t _))
        exact h3.cons_inv
      obtain ⟨j, e1, e2, e3⟩ := idx_perm h2
      refine ⟨j + 1, by simp [idxI, e, e1], by simpa using e2, ?_⟩
      simp only [List.eraseIdx_cons_succ]
      exact (e3.cons x).trans (List.perm_cons_erase hx2).symm
theorem idxD_ints : ∀ {xs : List Int} {k : Int}, idxD (xs.map PyData.int) (.int k) = idxI xs k
  | [], k => rfl
  | x :: xs, k => by
    unfold idxI
    rw [List.map_cons, idxD, idxD_ints (xs := xs) (k := k)]
    have e : PyData.eqv (.int x) (.int k) = (x == k) := by simp [PyData.eqv]
    rw [e]
    simp
theorem sort_rg {ns ns' : List Int} {m : Nat} (h : ns.Perm (rgI m)) (h1 : ns'.Perm ns) (h2 : ns'.Pairwise (· ≤ ·)) : ns' = rgI m := by
  have h3 : (rgI m).Pairwise (· ≤ ·) := by
    unfold rgI
    rw [List.pairwise_map]
    exact (List.pairwise_lt_range (n := m)).imp fun h => by omega
  exact (h1.trans h).eq_of_pairwise (le := (· ≤ ·)) (fun a b _ _ x y => Int.le_antisymm x y) h2 h3
/-! little helpers -/
theorem get_ints {ns : List Int} {i : Nat} {d : PyData} (h : (ns.map PyData.int)[i]? = some d) : ∃ t, ns[i]? = some t ∧ d = .int t := by
  rw [List.getElem?_map] at h
  cases e : ns[i]? with
  | none =>
    rw [e] at h
    cases h
  | some t =>
    rw [e] at h
    exact ⟨t, rfl, (Option.some.inj h).symm⟩
theorem take_nx {α : Type} {l : List α} {i : Nat} {x : α} (h : l[i]? = some x) : l.take (i + 1) = l.take i ++ [x] := by
  rw [List.take_add_one, h]
  rfl
theorem drop_nx {α : Type} {l : List α} {i : Nat} {x : α} (h : l[i]? = some x) : l.drop i = x :: l.drop (i + 1) := by
  obtain ⟨h1, h2⟩ := List.getElem?_eq_some_iff.mp h
  rw [List.drop_eq_getElem_cons h1, h2]
theorem ixN_nat {n j : Nat} (h : j < n) : ixN n (j : Int) = some j := by
  unfold ixN
  rw [if_pos (by omega), if_pos (by omega)]
  simp
theorem erase_map {α β : Type} (g : α → β) : ∀ (l : List α) (j : Nat), (l.map g).eraseIdx j = (l.eraseIdx j).map g
  | [], _ => rfl
  | _ :: _, 0 => rfl
  | x :: l, j + 1 => by
    show g x :: (l.map g).eraseIdx j = g x :: (l.eraseIdx j).map g
    rw [erase_map g l j]
theorem rgI_len (m : Nat) : (rgI m).length = m := by simp [rgI]
theorem rangeD_rgI (n : Nat) : rangeD 0 n = (rgI n).map PyData.int := by
  unfold rangeD rgI
  rw [List.map_map]
  refine List.map_congr_left fun i _ => ?_
  simp
theorem line_big : 16000000 ≤ sizeLine := by
  rw [sizeLine_eq]
  omega
theorem log_small (n : Nat) (h : n ≤ 1000000) : (n : Int).natAbs.log2 < 9000 := by
  rw [Int.natAbs_natCast]
  by_cases h0 : n = 0
  · subst h0
    decide +kernel
  · have h20 : n.log2 < 20 := (Nat.log2_lt h0).mpr (by omega)
    omega
theorem atI_nat {α : Type} {l : List α} {j : Nat} (h : j < l.length) : atI l (j : Int) = some l[j] := by
  unfold atI
  rw [ixN_nat h]
  exact List.getElem?_eq_getElem h
theorem erase_perm {α : Type} : ∀ (l : List α) (j : Nat) (h : j < l.length), List.Perm (l[j] :: l.eraseIdx j) l
  | _ :: _, 0, _ => .refl _
  | x :: l, j + 1, h => by
    have := erase_perm l j (by simpa using h)
    exact (List.Perm.swap x _ _).trans (this.cons x)
theorem cmul_len {a : Int} {n : Nat} (h : n ≤ 1000000) : CMul a (n : Int) := .inr ⟨by omega, by omega⟩
section
variable {P : Program} {w : World} {K : Fg} {mg : Str → Option Value} {base : Heap} {f : Addr} {fd : FuncData}
abbrev st_row_number : Stmt := top 6
abbrev N_row_number : List Str := ["row", "thing", "left", "found", "spot"]
theorem sc_row_number : FnScope N_row_number ["row"] (defScope st_row_number) := ⟨rfl, rfl, rfl, by decide +kernel, rfl, by decide +kernel, by decide +kernel⟩
def ph_row_number : Ph := fun args Q => ∃ ns m, args = [.fz (.tuple (ns.map PyData.int))] ∧ ns.Perm (rgI m) ∧ m ≤ 1000 ∧ Q (.fz (.int (rank (rgI m) ns))) [.un]
theorem ok_row_number (T : Txt mg) (F : Fun K "row_number" "row_number" st_row_number f fd) : FnG P w K mg base CX0 1 f fd ["row"] (spB K 1 ph_row_number) :=
  fg_ok (pins := []) F sc_row_number rfl (by decide) (fun args Q ⟨ns, m, e, _⟩ => by subst e; rfl) fun cdv A outer s H E hgd hr args Q hl h => by
    obtain ⟨ns, m, rfl, hp, hm, h⟩ := h
    refine ⟨_, (bss_cons (bs_par 2 3 rfl sc_row_number.nd (ba_cons (be_cb cq_sorted rfl T.n_sorted PyProof.Rows.boot_sorted (ba_cons (be_ct cq_list rfl T.n_list PyProof.Rows.boot_list (ba_cons (bv 0) ba_nil)) ba_nil)) (ba_cons be_int ba_nil)) (h := fun ta hta => ps_par rfl sc_row_number.nd rfl rfl (by decide) rfl rfl hta (by rfl)))
      (bss_cons (bs_for PassesOwn.never rfl (bi_tup (bv 0)) (bg_name 1 sc_row_number.nd) (bss_cons (bs_set 4 sc_row_number.nd (be_index (hu65 hr) (bv 2) (ba_cons (bv 1) ba_nil)))
      (bss_cons (bs_set 3 sc_row_number.nd (be_add (be_mul (bv 3) (be_cb cq_len rfl T.n_len PySem.boot_len (ba_cons (bv 2) ba_nil))) (bv 4)))
      (bss_one (bs_expr (be_popAt (bv 2) (ba_cons (bv 4) ba_nil)))))))
      (bss_one (bs_ret (bv 3))))), ?_⟩
    refine atEnv [.fz (.tuple (ns.map PyData.int)), .un, .un, .un, .un] rfl ?_
    simp only [bSeq, bRet, bAsg, bPar, bPar3, bTup4, gStore, bIfS, bNext, bDrop, bVar, bC, bOp, bUn, bII, bIC, bIB, asInts, asInt, asBool, asStrs, asStr, asView, vw, bCons, bNil, bTup, bLst, bFz, Ow.dat, bCB, one1, b1Len, lenD, b1List, b1Tuple, itemsOf, itemsL, itemsT, b1Int, b1Abs, b1Str, bIsi, bB, bAnd, bOr, bNot, bAndV, bOrV, bNotV, bChain, bIf, bIx, bMt, isL, mOwn, asDatas, datas, Option.map_some, fAppend, fPop, fPopAt, fRemove, mIndex, bCatL, ownL, bCatT, bRepL, bInI, bRevL, bRevT, bSl, oNone, oSome, bLstRg1, bTupRg1, bDown, bCall, callW, plainB, bCallK, List.getElem?_cons_zero, List.getElem?_cons_succ, List.set_cons_zero, List.set_cons_succ, endsF, intsD_map, b1Sorted, biTup, biSeq, biR1, biR2, b1Repr, isRefD, bAsI, bAsB, bAsD, bAsO, bNeE, atI_0, atI_1, dk, gTupB, gTups, bRaise, bDkS, bDkD, bDkP, bDkA, bDkPut, bDkNew, bDkCat]
    intro ns' h1 h2
    have e0 := sort_rg hp h1 h2
    subst e0
    unfold bFor
    simp only [bSeq, bRet, bAsg, bPar, bPar3, bTup4, gStore, bIfS, bNext, bDrop, bVar, bC, bOp, bUn, bII, bIC, bIB, asInts, asInt, asBool, asStrs, asStr, asView, vw, bCons, bNil, bTup, bLst, bFz, Ow.dat, bCB, one1, b1Len, lenD, b1List, b1Tuple, itemsOf, itemsL, itemsT, b1Int, b1Abs, b1Str, bIsi, bB, bAnd, bOr, bNot, bAndV, bOrV, bNotV, bChain, bIf, bIx, bMt, isL, mOwn, asDatas, datas, Option.map_some, fAppend, fPop, fPopAt, fRemove, mIndex, bCatL, ownL, bCatT, bRepL, bInI, bRevL, bRevT, bSl, oNone, oSome, bLstRg1, bTupRg1, bDown, bCall, callW, plainB, bCallK, List.getElem?_cons_zero, List.getElem?_cons_succ, List.set_cons_zero, List.set_cons_succ, endsF, intsD_map, b1Sorted, biTup, biSeq, biR1, biR2, b1Repr, isRefD, bAsI, bAsB, bAsD, bAsO, bNeE, atI_0, atI_1, dk, gTupB, gTups, bRaise, bDkS, bDkD, bDkP, bDkA, bDkPut, bDkNew, bDkCat]
    have hlen : ns.length = m := by rw [hp.length_eq, rgI_len]
    refine ⟨fun i e => ∃ s1 s4 S, (ns.take i).foldl stp (rgI m, 0) = S ∧ e = [.fz (.tuple (ns.map PyData.int)), s1, .ow (.lst (S.1.map PyData.int)), .fz (.int S.2), s4] ∧ S.1.Perm (ns.drop i), ⟨_, _, _, rfl, rfl, hp.symm⟩, ?_, ?_⟩
    · rintro i d e hi ⟨s1, s4, S, hS, rfl, hI⟩
      obtain ⟨t, ht, rfl⟩ := get_ints hi
      rw [drop_nx ht] at hI
      obtain ⟨j, e1, e2, e3⟩ := idx_perm hI
      have hz : S.1.length ≤ m := by
        have := hI.length_eq
        have hi2 := (List.getElem?_eq_some_iff.mp ht).1
        simp at this
        omega
      have hb := line_big
      simp only [bSeq, bRet, bAsg, bPar, bPar3, bTup4, gStore, bIfS, bNext, bDrop, bVar, bC, bOp, bUn, bII, bIC, bIB, asInts, asInt, asBool, asStrs, asStr, asView, vw, bCons, bNil, bTup, bLst, bFz, Ow.dat, bCB, one1, b1Len, lenD, b1List, b1Tuple, itemsOf, itemsL, itemsT, b1Int, b1Abs, b1Str, bIsi, bB, bAnd, bOr, bNot, bAndV, bOrV, bNotV, bChain, bIf, bIx, bMt, isL, mOwn, asDatas, datas, Option.map_some, fAppend, fPop, fPopAt, fRemove, mIndex, bCatL, ownL, bCatT, bRepL, bInI, bRevL, bRevT, bSl, oNone, oSome, bLstRg1, bTupRg1, bDown, bCall, callW, plainB, bCallK, List.getElem?_cons_zero, List.getElem?_cons_succ, List.set_cons_zero, List.set_cons_succ, endsF, intsD_map, b1Sorted, biTup, biSeq, biR1, biR2, b1Repr, isRefD, bAsI, bAsB, bAsD, bAsO, bNeE, atI_0, atI_1, dk, gTupB, gTups, bRaise, bDkS, bDkD, bDkP, bDkA, bDkPut, bDkNew, bDkCat]
      rw [idxD_ints, e1]
      refine ⟨rfl, ⟨shaped_ints _, rfl⟩, ?_⟩
      simp only [bSeq, bRet, bAsg, bPar, bPar3, bTup4, gStore, bIfS, bNext, bDrop, bVar, bC, bOp, bUn, bII, bIC, bIB, asInts, asInt, asBool, asStrs, asStr, asView, vw, bCons, bNil, bTup, bLst, bFz, Ow.dat, bCB, one1, b1Len, lenD, b1List, b1Tuple, itemsOf, itemsL, itemsT, b1Int, b1Abs, b1Str, bIsi, bB, bAnd, bOr, bNot, bAndV, bOrV, bNotV, bChain, bIf, bIx, bMt, isL, mOwn, asDatas, datas, Option.map_some, fAppend, fPop, fPopAt, fRemove, mIndex, bCatL, ownL, bCatT, bRepL, bInI, bRevL, bRevT, bSl, oNone, oSome, bLstRg1, bTupRg1, bDown, bCall, callW, plainB, bCallK, List.getElem?_cons_zero, List.getElem?_cons_succ, List.set_cons_zero, List.set_cons_succ, endsF, intsD_map, b1Sorted, biTup, biSeq, biR1, biR2, b1Repr, isRefD, bAsI, bAsB, bAsD, bAsO, bNeE, atI_0, atI_1, dk, gTupB, gTups, bRaise, bDkS, bDkD, bDkP, bDkA, bDkPut, bDkNew, bDkCat]
      rw [List.length_map]
      refine ⟨cmul_len (by omega), rfl, ?_⟩
      rw [if_pos (by omega), ixN_nat e2]
      simp only [bSeq, bRet, bAsg, bPar, bPar3, bTup4, gStore, bIfS, bNext, bDrop, bVar, bC, bOp, bUn, bII, bIC, bIB, asInts, asInt, asBool, asStrs, asStr, asView, vw, bCons, bNil, bTup, bLst, bFz, Ow.dat, bCB, one1, b1Len, lenD, b1List, b1Tuple, itemsOf, itemsL, itemsT, b1Int, b1Abs, b1Str, bIsi, bB, bAnd, bOr, bNot, bAndV, bOrV, bNotV, bChain, bIf, bIx, bMt, isL, mOwn, asDatas, datas, Option.map_some, fAppend, fPop, fPopAt, fRemove, mIndex, bCatL, ownL, bCatT, bRepL, bInI, bRevL, bRevT, bSl, oNone, oSome, bLstRg1, bTupRg1, bDown, bCall, callW, plainB, bCallK, List.getElem?_cons_zero, List.getElem?_cons_succ, List.set_cons_zero, List.set_cons_succ, endsF, intsD_map, b1Sorted, biTup, biSeq, biR1, biR2, b1Repr, isRefD, bAsI, bAsB, bAsD, bAsO, bNeE, atI_0, atI_1, dk, gTupB, gTups, bRaise, bDkS, bDkD, bDkP, bDkA, bDkPut, bDkNew, bDkCat]
      rw [List.getElem?_map, List.getElem?_eq_getElem e2]
      refine ⟨.fz (.int t), .fz (.int j), stp S t, by rw [take_nx ht, List.foldl_append, hS]; rfl, ?_, ?_⟩
      · rw [erase_map]
        unfold stp
        rw [e1]
        rfl
      · unfold stp
        rw [e1]
        exact e3
    · rintro e ⟨s1, s4, S, hS, rfl, hI⟩
      rw [List.length_map, List.take_length] at hS
      simp only [bSeq, bRet, bAsg, bPar, bPar3, bTup4, gStore, bIfS, bNext, bDrop, bVar, bC, bOp, bUn, bII, bIC, bIB, asInts, asInt, asBool, asStrs, asStr, asView, vw, bCons, bNil, bTup, bLst, bFz, Ow.dat, bCB, one1, b1Len, lenD, b1List, b1Tuple, itemsOf, itemsL, itemsT, b1Int, b1Abs, b1Str, bIsi, bB, bAnd, bOr, bNot, bAndV, bOrV, bNotV, bChain, bIf, bIx, bMt, isL, mOwn, asDatas, datas, Option.map_some, fAppend, fPop, fPopAt, fRemove, mIndex, bCatL, ownL, bCatT, bRepL, bInI, bRevL, bRevT, bSl, oNone, oSome, bLstRg1, bTupRg1, bDown, bCall, callW, plainB, bCallK, List.getElem?_cons_zero, List.getElem?_cons_succ, List.set_cons_zero, List.set_cons_succ, endsF, intsD_map, b1Sorted, biTup, biSeq, biR1, biR2, b1Repr, isRefD, bAsI, bAsB, bAsD, bAsO, bNeE, atI_0, atI_1, dk, gTupB, gTups, bRaise, bDkS, bDkD, bDkP, bDkA, bDkPut, bDkNew, bDkCat]
      unfold rank at h
      rw [hS] at h
      exact h
abbrev st_standing_number : Stmt := top 8
abbrev N_standing_number : List Str := ["n", "standing"]
theorem sc_standing_number : FnScope N_standing_number ["n", "standing"] (defScope st_standing_number) := ⟨rfl, rfl, rfl, by decide +kernel, rfl, by decide +kernel, by decide +kernel⟩
def ph_standing_number : Ph := fun args Q => ∃ (n st : Int) (ns : List Int) (m : Nat), args = [.fz (.int n), .fz (.tuple [.tuple (ns.map PyData.int), .int st])] ∧ ns.Perm (rgI m) ∧ m ≤ 1000 ∧ (0 ≤ n ∧ n < 1000) ∧ Q (.fz (.int (rank (rgI m) ns * n + st))) [.un, .un]
theorem ok_standing_number (T : Txt mg) (T_row_number : Fn P w K mg base CX0 1 "row_number" st_row_number ["row"] (spB K 1 ph_row_number)) (F : Fun K "standing_number" "standing_number" st_standing_number f fd) : FnG P w K mg base CX0 2 f fd ["n", "standing"] (spB K 2 ph_standing_number) :=
  fg_ok (pins := []) F sc_standing_number rfl (by decide) (fun args Q ⟨n, st, ns, m, e, _⟩ => by subst e; rfl) fun cdv A outer s H E hgd hr args Q hl h => by
    obtain ⟨n, st, ns, m, rfl, hp, hm, hn, h⟩ := h
    refine ⟨_, (bss_one (bs_ret (be_add (be_mul (be_callF T_row_number hgd (hr.mono (by decide)) rfl (ba_cons (be_ix (bv 1) be_int) ba_nil)) (bv 0)) (be_ix (bv 1) be_int)))), ?_⟩
    refine atEnv [.fz (.int n), .fz (.tuple [.tuple (ns.map PyData.int), .int st])] rfl ?_
    simp only [bSeq, bRet, bAsg, bPar, bPar3, bTup4, gStore, bIfS, bNext, bDrop, bVar, bC, bOp, bUn, bII, bIC, bIB, asInts, asInt, asBool, asStrs, asStr, asView, vw, bCons, bNil, bTup, bLst, bFz, Ow.dat, bCB, one1, b1Len, lenD, b1List, b1Tuple, itemsOf, itemsL, itemsT, b1Int, b1Abs, b1Str, bIsi, bB, bAnd, bOr, bNot, bAndV, bOrV, bNotV, bChain, bIf, bIx, bMt, isL, mOwn, asDatas, datas, Option.map_some, fAppend, fPop, fPopAt, fRemove, mIndex, bCatL, ownL, bCatT, bRepL, bInI, bRevL, bRevT, bSl, oNone, oSome, bLstRg1, bTupRg1, bDown, bCall, callW, plainB, bCallK, List.getElem?_cons_zero, List.getElem?_cons_succ, List.set_cons_zero, List.set_cons_succ, endsF, intsD_map, b1Sorted, biTup, biSeq, biR1, biR2, b1Repr, isRefD, bAsI, bAsB, bAsD, bAsO, bNeE, atI_0, atI_1, dk, gTupB, gTups, bRaise, bDkS, bDkD, bDkP, bDkA, bDkPut, bDkNew, bDkCat]
    refine ⟨rfl, trivial, ns, m, rfl, hp, hm, ?_⟩
    simp only [bSeq, bRet, bAsg, bPar, bPar3, bTup4, gStore, bIfS, bNext, bDrop, bVar, bC, bOp, bUn, bII, bIC, bIB, asInts, asInt, asBool, asStrs, asStr, asView, vw, bCons, bNil, bTup, bLst, bFz, Ow.dat, bCB, one1, b1Len, lenD, b1List, b1Tuple, itemsOf, itemsL, itemsT, b1Int, b1Abs, b1Str, bIsi, bB, bAnd, bOr, bNot, bAndV, bOrV, bNotV, bChain, bIf, bIx, bMt, isL, mOwn, asDatas, datas, Option.map_some, fAppend, fPop, fPopAt, fRemove, mIndex, bCatL, ownL, bCatT, bRepL, bInI, bRevL, bRevT, bSl, oNone, oSome, bLstRg1, bTupRg1, bDown, bCall, callW, plainB, bCallK, List.getElem?_cons_zero, List.getElem?_cons_succ, List.set_cons_zero, List.set_cons_succ, endsF, intsD_map, b1Sorted, biTup, biSeq, biR1, biR2, b1Repr, isRefD, bAsI, bAsB, bAsD, bAsO, bNeE, atI_0, atI_1, dk, gTupB, gTups, bRaise, bDkS, bDkD, bDkP, bDkA, bDkPut, bDkNew, bDkCat]
    exact ⟨.inr ⟨by omega, by omega⟩, h⟩
abbrev st__law_draw : Stmt := top 12
abbrev N__law_draw : List Str := ["deck", "many", "one", "two", "whole"]
theorem sc__law_draw : FnScope N__law_draw ["deck", "many"] (defScope st__law_draw) := ⟨rfl, rfl, rfl, by decide +kernel, rfl, by decide +kernel, by decide +kernel⟩
/-- a deck of at most so many numbers -/
def ph__law_draw : Ph := fun args Q => ∃ ns st many, args = [dk ns st, .fz (.int many)] ∧ ns.length ≤ 63 ∧ many.natAbs.log2 < 9000 ∧ ∀ ns' st' k, ns'.length ≤ 63 → 0 ≤ k → (k < many ∨ k = 0) → Q (.fz (.int k)) [dk ns' st', .un]
theorem ok__law_draw (T : Txt mg) (F : Fun K "_law_draw" "_law_draw" st__law_draw f fd) : FnG P w K mg base CX0 1 f fd ["deck", "many"] (spB K 2 ph__law_draw) :=
  fg_ok (pins := [0]) F sc__law_draw rfl (by decide) (fun args Q ⟨n, st, m, e, _⟩ => by subst e; rfl) fun cdv A outer s H E hgd hr args Q hl h => by
    obtain ⟨ns, st, many, rfl, hn, hm, h⟩ := h
    refine ⟨_, (bss_cons (bs_if (bt_cmp cr_lt (bv 1) be_int) (bss_one (bs_ret be_int)) bss_nil)
      (bss_cons (bs_if (bt_dkD 0 hr.units) (bss_cons (bs_set 4 sc__law_draw.nd (be_dkP 0 (hu_of hr)))
      (bss_cons (bs_if (bt_cmp cr_ge (bv 4) (bv 1)) (bss_one (bs_expr (be_dkA 0 4 1 (hu_of hr)))) bss_nil)
      (bss_one (bs_ret (be_mod (be_ct cq_int rfl T.n_int PyProof.Rows.boot_int (ba_cons (bv 4) ba_nil)) (bv 1)))))) bss_nil)
      (bss_cons (bs_set 2 sc__law_draw.nd (be_mod (be_ct cq_int rfl T.n_int PyProof.Rows.boot_int (ba_cons (be_add (be_mul (be_dkS 0 (hu_of hr)) be_int) be_int) ba_nil)) be_int))
      (bss_cons (bs_dkPut 0 (hu_of hr) (bv 2))
      (bss_cons (bs_set 3 sc__law_draw.nd (be_mod (be_ct cq_int rfl T.n_int PyProof.Rows.boot_int (ba_cons (be_add (be_add (be_mul (bv 2) (bv 2)) (be_mul be_int (bv 2))) be_int) ba_nil)) be_int))
      (bss_one (bs_ret (be_mod (be_ct cq_int rfl T.n_int PyProof.Rows.boot_int (ba_cons (be_fdivW (bv 3) be_int) ba_nil)) (bv 1))))))))), ?_⟩
    refine atEnv [dk ns st, .fz (.int many), .un, .un, .un] rfl ?_
    simp only [bSeq, bRet, bAsg, bPar, bPar3, bTup4, gStore, bIfS, bNext, bDrop, bVar, bC, bOp, bUn, bII, bIC, bIB, asInts, asInt, asBool, asStrs, asStr, asView, vw, bCons, bNil, bTup, bLst, bFz, Ow.dat, bCB, one1, b1Len, lenD, b1List, b1Tuple, itemsOf, itemsL, itemsT, b1Int, b1Abs, b1Str, bIsi, bB, bAnd, bOr, bNot, bAndV, bOrV, bNotV, bChain, bIf, bIx, bMt, isL, mOwn, asDatas, datas, Option.map_some, fAppend, fPop, fPopAt, fRemove, mIndex, bCatL, ownL, bCatT, bRepL, bInI, bRevL, bRevT, bSl, oNone, oSome, bLstRg1, bTupRg1, bDown, bCall, callW, plainB, bCallK, List.getElem?_cons_zero, List.getElem?_cons_succ, List.set_cons_zero, List.set_cons_succ, endsF, intsD_map, b1Sorted, biTup, biSeq, biR1, biR2, b1Repr, isRefD, bAsI, bAsB, bAsD, bAsO, bNeE, atI_0, atI_1, dk, gTupB, gTups, bRaise, bDkS, bDkD, bDkP, bDkA, bDkPut, bDkNew, bDkCat]
    refine ifB (fun h2 => ?_) (fun h2 => ?_)
    · exact h ns st 0 hn (Int.le_refl 0) (.inr rfl)
    have hpos : 1 < many := by
      have := of_decide_eq_false h2
      omega
    have fin : ∀ (x : Int), 0 ≤ x % many ∧ (x % many < many ∨ x % many = 0) := fun x => ⟨Int.emod_nonneg _ (by omega), .inl (Int.emod_lt_of_pos _ (by omega))⟩
    have hb := line_big
    refine ⟨ns, st, rfl, ifB (fun h3 => ?_) (fun h3 => ?_)⟩
    · obtain ⟨ms, n, rfl⟩ : ∃ ms n, ns = ms ++ [n] := by
        cases e : ns.reverse with
        | nil =>
          rw [List.reverse_eq_nil_iff] at e
          subst e
          cases h3
        | cons x xs => exact ⟨xs.reverse, x, by rw [← List.reverse_reverse ns, e, List.reverse_cons]⟩
      have hms : ms.length < 63 := by
        simp at hn
        omega
      refine ⟨ms, n, st, rfl, ifB (fun h4 => ?_) (fun h4 => ?_)⟩
      · exact ⟨ms, st, n, many, rfl, rfl, rfl, ⟨by omega, hm⟩, by omega, by omega, h _ _ _ (by simp; omega) (fin _).1 (fin _).2⟩
      · exact ⟨by omega, h _ _ _ (by omega) (fin _).1 (fin _).2⟩
    · refine ⟨ns, st, rfl, .inr ⟨by omega, by omega⟩, by omega, ns, st, rfl, ?_⟩
      have b1 : 0 ≤ (st * 1181783497276652981 + 88172645463325) % 2305843009213693951 := Int.emod_nonneg _ (by omega)
      have b2 : (st * 1181783497276652981 + 88172645463325) % 2305843009213693951 < 2305843009213693951 := Int.emod_lt_of_pos _ (by omega)
      exact ⟨.inl ⟨by omega, by omega⟩, .inl ⟨by omega, by omega⟩, by omega, ⟨by omega, by decide +kernel⟩, by omega, h _ _ _ hn (fin _).1 (fin _).2⟩
abbrev st__law_deck : Stmt := top 11
abbrev N__law_deck : List Str := ["script", "deck", "cell", "whole", "state"]
theorem sc__law_deck : FnScope N__law_deck ["script"] (defScope st__law_deck) := ⟨rfl, rfl, rfl, by decide +kernel, rfl, by decide +kernel, by decide +kernel⟩
def ph__law_deck : Ph := fun args Q => ∃ ns : List Int, args = [.fz (.list (ns.map PyData.int))] ∧ ns.length ≤ 63 ∧ ∀ ms st, ms.length ≤ 63 → Q (dk ms st) [.un]
theorem ok__law_deck (T : Txt mg) (F : Fun K "_law_deck" "_law_deck" st__law_deck f fd) : FnG P w K mg base CX0 1 f fd ["script"] (spB K 1 ph__law_deck) :=
  fg_ok (pins := []) F sc__law_deck rfl (by decide) (fun args Q ⟨ns, e, _⟩ => by subst e; rfl) fun cdv A outer s H E hgd hr args Q hl h => by
    obtain ⟨ns, rfl, hn, h⟩ := h
    refine ⟨_, (bss_cons (bs_set 1 sc__law_deck.nd (be_dkNew (be_add be_int (be_cb cq_len rfl T.n_len PySem.boot_len (ba_cons (be_sl (bv 0) bo_none (bo_some be_int)) ba_nil)))))
      (bss_cons (bs_for PassesOwn.never rfl (bi_list (be_fz (be_sl (bv 0) bo_none (bo_some be_int)))) (bg_name 2 sc__law_deck.nd) (bss_cons (bs_set 3 sc__law_deck.nd (be_cb cq_abs rfl T.n_abs PyProof.Rows.boot_abs (ba_cons (bv 2) ba_nil)))
      (bss_cons (bs_if (bt_cmp cr_ge (bv 3) (be_pow be_int be_int)) (bss_one (bs_dkCat 1 3 (hu_of hr))) bss_nil)
      (bss_cons (bs_set 4 sc__law_deck.nd (be_add (be_mul (be_add (be_add (be_add (be_dkS 1 (hu_of hr)) (be_mul be_int (bv 3))) (be_ct cq_int rfl T.n_int PyProof.Rows.boot_int (ba_cons (be_cmp cr_lt (bv 2) be_int) ba_nil))) be_int) be_int) be_int))
      (bss_one (bs_dkPut 1 (hu_of hr) (be_mod (be_ct cq_int rfl T.n_int PyProof.Rows.boot_int (ba_cons (bv 4) ba_nil)) be_int)))))))
      (bss_one (bs_ret (bv 1))))), ?_⟩
    refine atEnv [.fz (.list (ns.map PyData.int)), .un, .un, .un, .un] rfl ?_
    have hb := line_big
    have ecut : cutD (ns.map PyData.int) none (some 63) = ns.map PyData.int := cut_to (by simp; omega)
    simp only [bSeq, bRet, bAsg, bPar, bPar3, bTup4, gStore, bIfS, bNext, bDrop, bVar, bC, bOp, bUn, bII, bIC, bIB, asInts, asInt, asBool, asStrs, asStr, asView, vw, bCons, bNil, bTup, bLst, bFz, Ow.dat, bCB, one1, b1Len, lenD, b1List, b1Tuple, itemsOf, itemsL, itemsT, b1Int, b1Abs, b1Str, bIsi, bB, bAnd, bOr, bNot, bAndV, bOrV, bNotV, bChain, bIf, bIx, bMt, isL, mOwn, asDatas, datas, Option.map_some, fAppend, fPop, fPopAt, fRemove, mIndex, bCatL, ownL, bCatT, bRepL, bInI, bRevL, bRevT, bSl, oNone, oSome, bLstRg1, bTupRg1, bDown, bCall, callW, plainB, bCallK, List.getElem?_cons_zero, List.getElem?_cons_succ, List.set_cons_zero, List.set_cons_succ, endsF, intsD_map, b1Sorted, biTup, biSeq, biR1, biR2, b1Repr, isRefD, bAsI, bAsB, bAsD, bAsO, bNeE, atI_0, atI_1, dk, gTupB, gTups, bRaise, bDkS, bDkD, bDkP, bDkA, bDkPut, bDkNew, bDkCat]
    unfold bFor
    simp only [bSeq, bRet, bAsg, bPar, bPar3, bTup4, gStore, bIfS, bNext, bDrop, bVar, bC, bOp, bUn, bII, bIC, bIB, asInts, asInt, asBool, asStrs, asStr, asView, vw, bCons, bNil, bTup, bLst, bFz, Ow.dat, bCB, one1, b1Len, lenD, b1List, b1Tuple, itemsOf, itemsL, itemsT, b1Int, b1Abs, b1Str, bIsi, bB, bAnd, bOr, bNot, bAndV, bOrV, bNotV, bChain, bIf, bIx, bMt, isL, mOwn, asDatas, datas, Option.map_some, fAppend, fPop, fPopAt, fRemove, mIndex, bCatL, ownL, bCatT, bRepL, bInI, bRevL, bRevT, bSl, oNone, oSome, bLstRg1, bTupRg1, bDown, bCall, callW, plainB, bCallK, List.getElem?_cons_zero, List.getElem?_cons_succ, List.set_cons_zero, List.set_cons_succ, endsF, intsD_map, b1Sorted, biTup, biSeq, biR1, biR2, b1Repr, isRefD, bAsI, bAsB, bAsD, bAsO, bNeE, atI_0, atI_1, dk, gTupB, gTups, bRaise, bDkS, bDkD, bDkP, bDkA, bDkPut, bDkNew, bDkCat]
    rw [ecut]
    refine ⟨fun i e => ∃ ms st s2 s3 s4, e = [.fz (.list (ns.map PyData.int)), dk ms st, s2, s3, s4] ∧ ms.length ≤ i ∧ i ≤ 63, ⟨_, _, _, _, _, rfl, Nat.le_refl _, by omega⟩, ?_, ?_⟩
    · rintro i d e hi ⟨ms, st, s2, s3, s4, rfl, hms, h63⟩
      obtain ⟨t, ht, rfl⟩ := get_ints hi
      have hi2 := (List.getElem?_eq_some_iff.mp ht).1
      simp only [bSeq, bRet, bAsg, bPar, bPar3, bTup4, gStore, bIfS, bNext, bDrop, bVar, bC, bOp, bUn, bII, bIC, bIB, asInts, asInt, asBool, asStrs, asStr, asView, vw, bCons, bNil, bTup, bLst, bFz, Ow.dat, bCB, one1, b1Len, lenD, b1List, b1Tuple, itemsOf, itemsL, itemsT, b1Int, b1Abs, b1Str, bIsi, bB, bAnd, bOr, bNot, bAndV, bOrV, bNotV, bChain, bIf, bIx, bMt, isL, mOwn, asDatas, datas, Option.map_some, fAppend, fPop, fPopAt, fRemove, mIndex, bCatL, ownL, bCatT, bRepL, bInI, bRevL, bRevT, bSl, oNone, oSome, bLstRg1, bTupRg1, bDown, bCall, callW, plainB, bCallK, List.getElem?_cons_zero, List.getElem?_cons_succ, List.set_cons_zero, List.set_cons_succ, endsF, intsD_map, b1Sorted, biTup, biSeq, biR1, biR2, b1Repr, isRefD, bAsI, bAsB, bAsD, bAsO, bNeE, atI_0, atI_1, dk, gTupB, gTups, bRaise, bDkS, bDkD, bDkP, bDkA, bDkPut, bDkNew, bDkCat]
      refine ⟨⟨by omega, by omega, by decide⟩, ifB (fun h4 => ?_) (fun h4 => ?_)⟩
      · refine ⟨ms, st, _, rfl, rfl, by omega, _, _, rfl, .inl ⟨by omega, by omega⟩, .inr ⟨by omega, by omega⟩, by omega, _, _, rfl, _, _, _, _, _, rfl, by simp; omega, by omega⟩
      · refine ⟨ms, st, rfl, .inl ⟨by omega, by omega⟩, .inr ⟨by omega, by omega⟩, by omega, _, _, rfl, _, _, _, _, _, rfl, by omega, by omega⟩
    · rintro e ⟨ms, st, s2, s3, s4, rfl, hms, h63⟩
      simp only [bSeq, bRet, bAsg, bPar, bPar3, bTup4, gStore, bIfS, bNext, bDrop, bVar, bC, bOp, bUn, bII, bIC, bIB, asInts, asInt, asBool, asStrs, asStr, asView, vw, bCons, bNil, bTup, bLst, bFz, Ow.dat, bCB, one1, b1Len, lenD, b1List, b1Tuple, itemsOf, itemsL, itemsT, b1Int, b1Abs, b1Str, bIsi, bB, bAnd, bOr, bNot, bAndV, bOrV, bNotV, bChain, bIf, bIx, bMt, isL, mOwn, asDatas, datas, Option.map_some, fAppend, fPop, fPopAt, fRemove, mIndex, bCatL, ownL, bCatT, bRepL, bInI, bRevL, bRevT, bSl, oNone, oSome, bLstRg1, bTupRg1, bDown, bCall, callW, plainB, bCallK, List.getElem?_cons_zero, List.getElem?_cons_succ, List.set_cons_zero, List.set_cons_succ, endsF, intsD_map, b1Sorted, biTup, biSeq, biR1, biR2, b1Repr, isRefD, bAsI, bAsB, bAsD, bAsO, bNeE, atI_0, atI_1, dk, gTupB, gTups, bRaise, bDkS, bDkD, bDkP, bDkA, bDkPut, bDkNew, bDkCat]
      exact ⟨rfl, h ms st (by omega)⟩
abbrev st__law_pick : Stmt := top 13
abbrev N__law_pick : List Str := ["deck", "items"]
theorem sc__law_pick : FnScope N__law_pick ["deck", "items"] (defScope st__law_pick) := ⟨rfl, rfl, rfl, by decide +kernel, rfl, by decide +kernel, by decide +kernel⟩
def ph__law_pick : Ph := fun args Q => ∃ ns st ds, args = [dk ns st, .fz (.list ds)] ∧ ns.length ≤ 63 ∧ 0 < ds.length ∧ ds.length ≤ 1000000 ∧ ∀ ns' st' (k : Nat) d, ns'.length ≤ 63 → ds[k]? = some d → Q (.fz d) [dk ns' st', .un]
theorem ok__law_pick (T : Txt mg) (T__law_draw : Fn P w K mg base CX0 1 "_law_draw" st__law_draw ["deck", "many"] (spB K 2 ph__law_draw)) (F : Fun K "_law_pick" "_law_pick" st__law_pick f fd) : FnG P w K mg base CX0 2 f fd ["deck", "items"] (spB K 2 ph__law_pick) :=
  fg_ok (pins := [0]) F sc__law_pick rfl (by decide) (fun args Q ⟨n, st, m, e, _⟩ => by subst e; rfl) fun cdv A outer s H E hgd hr args Q hl h => by
    obtain ⟨ns, st, ds, rfl, hn, h0, h1, h⟩ := h
    refine ⟨_, (bss_one (bs_ret (be_ix (bv 1) (be_callF T__law_draw hgd (hr.mono (by decide)) rfl (ba_cons (bv 0) (ba_cons (be_cb cq_len rfl T.n_len PySem.boot_len (ba_cons (bv 1) ba_nil)) ba_nil)))))), ?_⟩
    refine atEnv [dk ns st, .fz (.list ds)] rfl ?_
    simp only [bSeq, bRet, bAsg, bPar, bPar3, bTup4, gStore, bIfS, bNext, bDrop, bVar, bC, bOp, bUn, bII, bIC, bIB, asInts, asInt, asBool, asStrs, asStr, asView, vw, bCons, bNil, bTup, bLst, bFz, Ow.dat, bCB, one1, b1Len, lenD, b1List, b1Tuple, itemsOf, itemsL, itemsT, b1Int, b1Abs, b1Str, bIsi, bB, bAnd, bOr, bNot, bAndV, bOrV, bNotV, bChain, bIf, bIx, bMt, isL, mOwn, asDatas, datas, Option.map_some, fAppend, fPop, fPopAt, fRemove, mIndex, bCatL, ownL, bCatT, bRepL, bInI, bRevL, bRevT, bSl, oNone, oSome, bLstRg1, bTupRg1, bDown, bCall, callW, plainB, bCallK, List.getElem?_cons_zero, List.getElem?_cons_succ, List.set_cons_zero, List.set_cons_succ, endsF, intsD_map, b1Sorted, biTup, biSeq, biR1, biR2, b1Repr, isRefD, bAsI, bAsB, bAsD, bAsO, bNeE, atI_0, atI_1, dk, gTupB, gTups, bRaise, bDkS, bDkD, bDkP, bDkA, bDkPut, bDkNew, bDkCat]
    have hd := log_small ds.length h1
    refine ⟨rfl, trivial, ns, st, _, rfl, hn, hd, fun ns' st' k hn' hk0 hk => ⟨_, rfl, ?_⟩⟩
    simp only [bSeq, bRet, bAsg, bPar, bPar3, bTup4, gStore, bIfS, bNext, bDrop, bVar, bC, bOp, bUn, bII, bIC, bIB, asInts, asInt, asBool, asStrs, asStr, asView, vw, bCons, bNil, bTup, bLst, bFz, Ow.dat, bCB, one1, b1Len, lenD, b1List, b1Tuple, itemsOf, itemsL, itemsT, b1Int, b1Abs, b1Str, bIsi, bB, bAnd, bOr, bNot, bAndV, bOrV, bNotV, bChain, bIf, bIx, bMt, isL, mOwn, asDatas, datas, Option.map_some, fAppend, fPop, fPopAt, fRemove, mIndex, bCatL, ownL, bCatT, bRepL, bInI, bRevL, bRevT, bSl, oNone, oSome, bLstRg1, bTupRg1, bDown, bCall, callW, plainB, bCallK, List.getElem?_cons_zero, List.getElem?_cons_succ, List.set_cons_zero, List.set_cons_succ, endsF, intsD_map, b1Sorted, biTup, biSeq, biR1, biR2, b1Repr, isRefD, bAsI, bAsB, bAsD, bAsO, bNeE, atI_0, atI_1, dk, gTupB, gTups, bRaise, bDkS, bDkD, bDkP, bDkA, bDkPut, bDkNew, bDkCat]
    obtain ⟨j, rfl⟩ := Int.eq_ofNat_of_zero_le hk0
    have hj : j < ds.length := by omega
    rw [atI_nat hj]
    exact h ns' st' j _ hn' (List.getElem?_eq_getElem hj)
abbrev st__law_mixed : Stmt := top 14
abbrev N__law_mixed : List Str := ["deck", "items", "left", "found"]
theorem sc__law_mixed : FnScope N__law_mixed ["deck", "items"] (defScope st__law_mixed) := ⟨rfl, rfl, rfl, by decide +kernel, rfl, by decide +kernel, by decide +kernel⟩
def ph__law_mixed : Ph := fun args Q => ∃ ns st ds, args = [dk ns st, .fz (.list ds)] ∧ ns.length ≤ 63 ∧ ds.length ≤ 1000000 ∧ ∀ ns' st' es, ns'.length ≤ 63 → List.Perm es ds → Q (.ow (.lst es)) [dk ns' st', .un]
theorem ok__law_mixed (T : Txt mg) (T__law_draw : Fn P w K mg base CX0 1 "_law_draw" st__law_draw ["deck", "many"] (spB K 2 ph__law_draw)) (F : Fun K "_law_mixed" "_law_mixed" st__law_mixed f fd) : FnG P w K mg base CX0 2 f fd ["deck", "items"] (spB K 2 ph__law_mixed) :=
  fg_ok (pins := [0]) F sc__law_mixed rfl (by decide) (fun args Q ⟨n, st, m, e, _⟩ => by subst e; rfl) fun cdv A outer s H E hgd hr args Q hl h => by
    obtain ⟨ns, st, ds, rfl, hn, h1, h⟩ := h
    refine ⟨_, (bss_cons (bs_par 2 3 rfl sc__law_mixed.nd (ba_cons (be_ct cq_list rfl T.n_list PyProof.Rows.boot_list (ba_cons (bv 1) ba_nil)) (ba_cons (be_lst ba_nil) ba_nil)) (h := fun ta hta => ps_par rfl sc__law_mixed.nd rfl rfl (by decide) rfl rfl hta (by rfl)))
      (bss_cons (bs_while PassesOwn.never (bt_cmp (cr_neE (hu_of hr)) (bv 2) (be_lst ba_nil)) (bss_one (bs_expr (be_append (bv 3) (ba_cons (be_popAt (bv 2) (ba_cons (be_callF T__law_draw hgd (hr.mono (by decide)) rfl (ba_cons (bv 0) (ba_cons (be_cb cq_len rfl T.n_len PySem.boot_len (ba_cons (bv 2) ba_nil)) ba_nil))) ba_nil)) ba_nil)))))
      (bss_one (bs_ret (bv 3))))), ?_⟩
    refine atEnv [dk ns st, .fz (.list ds), .un, .un] rfl ?_
    have hb := line_big
    simp only [bSeq, bRet, bAsg, bPar, bPar3, bTup4, gStore, bIfS, bNext, bDrop, bVar, bC, bOp, bUn, bII, bIC, bIB, asInts, asInt, asBool, asStrs, asStr, asView, vw, bCons, bNil, bTup, bLst, bFz, Ow.dat, bCB, one1, b1Len, lenD, b1List, b1Tuple, itemsOf, itemsL, itemsT, b1Int, b1Abs, b1Str, bIsi, bB, bAnd, bOr, bNot, bAndV, bOrV, bNotV, bChain, bIf, bIx, bMt, isL, mOwn, asDatas, datas, Option.map_some, fAppend, fPop, fPopAt, fRemove, mIndex, bCatL, ownL, bCatT, bRepL, bInI, bRevL, bRevT, bSl, oNone, oSome, bLstRg1, bTupRg1, bDown, bCall, callW, plainB, bCallK, List.getElem?_cons_zero, List.getElem?_cons_succ, List.set_cons_zero, List.set_cons_succ, endsF, intsD_map, b1Sorted, biTup, biSeq, biR1, biR2, b1Repr, isRefD, bAsI, bAsB, bAsD, bAsO, bNeE, atI_0, atI_1, dk, gTupB, gTups, bRaise, bDkS, bDkD, bDkP, bDkA, bDkPut, bDkNew, bDkCat]
    refine ⟨Nat.zero_le _, ?_⟩
    unfold bWhile
    simp only [bSeq, bRet, bAsg, bPar, bPar3, bTup4, gStore, bIfS, bNext, bDrop, bVar, bC, bOp, bUn, bII, bIC, bIB, asInts, asInt, asBool, asStrs, asStr, asView, vw, bCons, bNil, bTup, bLst, bFz, Ow.dat, bCB, one1, b1Len, lenD, b1List, b1Tuple, itemsOf, itemsL, itemsT, b1Int, b1Abs, b1Str, bIsi, bB, bAnd, bOr, bNot, bAndV, bOrV, bNotV, bChain, bIf, bIx, bMt, isL, mOwn, asDatas, datas, Option.map_some, fAppend, fPop, fPopAt, fRemove, mIndex, bCatL, ownL, bCatT, bRepL, bInI, bRevL, bRevT, bSl, oNone, oSome, bLstRg1, bTupRg1, bDown, bCall, callW, plainB, bCallK, List.getElem?_cons_zero, List.getElem?_cons_succ, List.set_cons_zero, List.set_cons_succ, endsF, intsD_map, b1Sorted, biTup, biSeq, biR1, biR2, b1Repr, isRefD, bAsI, bAsB, bAsD, bAsO, bNeE, atI_0, atI_1, dk, gTupB, gTups, bRaise, bDkS, bDkD, bDkP, bDkA, bDkPut, bDkNew, bDkCat]
    refine ⟨fun m e => ∃ ns st l f, e = [dk ns st, .fz (.list ds), .ow (.lst l), .ow (.lst f)] ∧ ns.length ≤ 63 ∧ l.length = m ∧ (f ++ l).Perm ds, ⟨ds.length, ns, st, ds, [], rfl, hn, rfl, List.Perm.refl _⟩, ?_⟩
    rintro m e ⟨ns, st, l, f, rfl, hn, rfl, hp⟩
    have hlen := hp.length_eq
    rw [List.length_append] at hlen
    simp only [bSeq, bRet, bAsg, bPar, bPar3, bTup4, gStore, bIfS, bNext, bDrop, bVar, bC, bOp, bUn, bII, bIC, bIB, asInts, asInt, asBool, asStrs, asStr, asView, vw, bCons, bNil, bTup, bLst, bFz, Ow.dat, bCB, one1, b1Len, lenD, b1List, b1Tuple, itemsOf, itemsL, itemsT, b1Int, b1Abs, b1Str, bIsi, bB, bAnd, bOr, bNot, bAndV, bOrV, bNotV, bChain, bIf, bIx, bMt, isL, mOwn, asDatas, datas, Option.map_some, fAppend, fPop, fPopAt, fRemove, mIndex, bCatL, ownL, bCatT, bRepL, bInI, bRevL, bRevT, bSl, oNone, oSome, bLstRg1, bTupRg1, bDown, bCall, callW, plainB, bCallK, List.getElem?_cons_zero, List.getElem?_cons_succ, List.set_cons_zero, List.set_cons_succ, endsF, intsD_map, b1Sorted, biTup, biSeq, biR1, biR2, b1Repr, isRefD, bAsI, bAsB, bAsD, bAsO, bNeE, atI_0, atI_1, dk, gTupB, gTups, bRaise, bDkS, bDkD, bDkP, bDkA, bDkPut, bDkNew, bDkCat]
    refine ⟨Nat.zero_le _, trivial, ifB (fun h4 => ?_) (fun h4 => ?_)⟩
    · have hpos : 0 < l.length := by
        cases l with
        | nil => cases h4
        | cons a l => simp
      have hd := log_small l.length (by omega)
      refine ⟨rfl, rfl, rfl, trivial, ns, st, _, rfl, hn, hd, fun ns' st' k hn' hk0 hk => ⟨_, rfl, ?_⟩⟩
      obtain ⟨j, rfl⟩ := Int.eq_ofNat_of_zero_le hk0
      have hj : j < l.length := by omega
      simp only [bSeq, bRet, bAsg, bPar, bPar3, bTup4, gStore, bIfS, bNext, bDrop, bVar, bC, bOp, bUn, bII, bIC, bIB, asInts, asInt, asBool, asStrs, asStr, asView, vw, bCons, bNil, bTup, bLst, bFz, Ow.dat, bCB, one1, b1Len, lenD, b1List, b1Tuple, itemsOf, itemsL, itemsT, b1Int, b1Abs, b1Str, bIsi, bB, bAnd, bOr, bNot, bAndV, bOrV, bNotV, bChain, bIf, bIx, bMt, isL, mOwn, asDatas, datas, Option.map_some, fAppend, fPop, fPopAt, fRemove, mIndex, bCatL, ownL, bCatT, bRepL, bInI, bRevL, bRevT, bSl, oNone, oSome, bLstRg1, bTupRg1, bDown, bCall, callW, plainB, bCallK, List.getElem?_cons_zero, List.getElem?_cons_succ, List.set_cons_zero, List.set_cons_succ, endsF, intsD_map, b1Sorted, biTup, biSeq, biR1, biR2, b1Repr, isRefD, bAsI, bAsB, bAsD, bAsO, bNeE, atI_0, atI_1, dk, gTupB, gTups, bRaise, bDkS, bDkD, bDkP, bDkA, bDkPut, bDkNew, bDkCat]
      rw [if_pos (by omega), ixN_nat hj]
      simp only [bSeq, bRet, bAsg, bPar, bPar3, bTup4, gStore, bIfS, bNext, bDrop, bVar, bC, bOp, bUn, bII, bIC, bIB, asInts, asInt, asBool, asStrs, asStr, asView, vw, bCons, bNil, bTup, bLst, bFz, Ow.dat, bCB, one1, b1Len, lenD, b1List, b1Tuple, itemsOf, itemsL, itemsT, b1Int, b1Abs, b1Str, bIsi, bB, bAnd, bOr, bNot, bAndV, bOrV, bNotV, bChain, bIf, bIx, bMt, isL, mOwn, asDatas, datas, Option.map_some, fAppend, fPop, fPopAt, fRemove, mIndex, bCatL, ownL, bCatT, bRepL, bInI, bRevL, bRevT, bSl, oNone, oSome, bLstRg1, bTupRg1, bDown, bCall, callW, plainB, bCallK, List.getElem?_cons_zero, List.getElem?_cons_succ, List.set_cons_zero, List.set_cons_succ, endsF, intsD_map, b1Sorted, biTup, biSeq, biR1, biR2, b1Repr, isRefD, bAsI, bAsB, bAsD, bAsO, bNeE, atI_0, atI_1, dk, gTupB, gTups, bRaise, bDkS, bDkD, bDkP, bDkA, bDkPut, bDkNew, bDkCat]
      rw [List.getElem?_eq_getElem hj]
      simp only [bSeq, bRet, bAsg, bPar, bPar3, bTup4, gStore, bIfS, bNext, bDrop, bVar, bC, bOp, bUn, bII, bIC, bIB, asInts, asInt, asBool, asStrs, asStr, asView, vw, bCons, bNil, bTup, bLst, bFz, Ow.dat, bCB, one1, b1Len, lenD, b1List, b1Tuple, itemsOf, itemsL, itemsT, b1Int, b1Abs, b1Str, bIsi, bB, bAnd, bOr, bNot, bAndV, bOrV, bNotV, bChain, bIf, bIx, bMt, isL, mOwn, asDatas, datas, Option.map_some, fAppend, fPop, fPopAt, fRemove, mIndex, bCatL, ownL, bCatT, bRepL, bInI, bRevL, bRevT, bSl, oNone, oSome, bLstRg1, bTupRg1, bDown, bCall, callW, plainB, bCallK, List.getElem?_cons_zero, List.getElem?_cons_succ, List.set_cons_zero, List.set_cons_succ, endsF, intsD_map, b1Sorted, biTup, biSeq, biR1, biR2, b1Repr, isRefD, bAsI, bAsB, bAsD, bAsO, bNeE, atI_0, atI_1, dk, gTupB, gTups, bRaise, bDkS, bDkD, bDkP, bDkA, bDkPut, bDkNew, bDkCat]
      rw [if_pos (by omega)]
      simp only [bSeq, bRet, bAsg, bPar, bPar3, bTup4, gStore, bIfS, bNext, bDrop, bVar, bC, bOp, bUn, bII, bIC, bIB, asInts, asInt, asBool, asStrs, asStr, asView, vw, bCons, bNil, bTup, bLst, bFz, Ow.dat, bCB, one1, b1Len, lenD, b1List, b1Tuple, itemsOf, itemsL, itemsT, b1Int, b1Abs, b1Str, bIsi, bB, bAnd, bOr, bNot, bAndV, bOrV, bNotV, bChain, bIf, bIx, bMt, isL, mOwn, asDatas, datas, Option.map_some, fAppend, fPop, fPopAt, fRemove, mIndex, bCatL, ownL, bCatT, bRepL, bInI, bRevL, bRevT, bSl, oNone, oSome, bLstRg1, bTupRg1, bDown, bCall, callW, plainB, bCallK, List.getElem?_cons_zero, List.getElem?_cons_succ, List.set_cons_zero, List.set_cons_succ, endsF, intsD_map, b1Sorted, biTup, biSeq, biR1, biR2, b1Repr, isRefD, bAsI, bAsB, bAsD, bAsO, bNeE, atI_0, atI_1, dk, gTupB, gTups, bRaise, bDkS, bDkD, bDkP, bDkA, bDkPut, bDkNew, bDkCat]
      refine ⟨l.length - 1, by omega, ns', st', _, _, rfl, hn', by rw [List.length_eraseIdx_of_lt hj], ?_⟩
      refine List.Perm.trans ?_ hp
      rw [List.append_assoc]
      refine List.Perm.append_left f ?_
      show List.Perm (l[j] :: l.eraseIdx j) l
      exact erase_perm l j hj
    · have hl0 : l = [] := by
        cases l with
        | nil => rfl
        | cons a l => cases h4
      subst hl0
      rw [List.append_nil] at hp
      exact ⟨rfl, h _ _ _ hn hp⟩
end
end K4

set_option maxHeartbeats 400000
/-! k04, part b: the law's own reckonings. -/
namespace K4
open PySem L2 BV
theorem range_get {lo : Int} {n i : Nat} {d : PyData} (h : (rangeD lo n)[i]? = some d) : i < n ∧ d = .int (lo + (i : Int)) := by
  have hi : i < n := by
    have := (List.getElem?_eq_some_iff.mp h).1
    simpa [rangeD] using this
  rw [rangeD, List.getElem?_map, List.getElem?_range hi] at h
  exact ⟨hi, (Option.some.inj h).symm⟩
theorem range_len {lo : Int} {n : Nat} : (rangeD lo n).length = n := by simp [rangeD]
section
variable {P : Program} {w : World} {K : Fg} {mg : Str → Option Value} {base : Heap} {f : Addr} {fd : FuncData}
abbrev st__law_many : Stmt := top 18
abbrev N__law_many : List Str := ["n", "found", "own"]
theorem sc__law_many : FnScope N__law_many ["n"] (defScope st__law_many) := ⟨rfl, rfl, rfl, by decide +kernel, rfl, by decide +kernel, by decide +kernel⟩
def fac : Nat → Int
  | 0 => 1
  | n + 1 => fac n * ((n : Int) + 1)
theorem fac_pos : ∀ n, 0 < fac n
  | 0 => by decide
  | n + 1 => Int.mul_pos (fac_pos n) (by omega)
def ph__law_many : Ph := fun args Q => ∃ n : Nat, args = [.fz (.int n)] ∧ n ≤ 100 ∧ Q (.fz (.int (n * fac (n + 1)))) [.un]
theorem ok__law_many (T : Txt mg) (F : Fun K "_law_many" "_law_many" st__law_many f fd) : FnG P w K mg base CX0 1 f fd ["n"] (spB K 1 ph__law_many) :=
  fg_ok (pins := []) F sc__law_many rfl (by decide) (fun args Q ⟨n, e, _⟩ => by subst e; rfl) fun cdv A outer s H E hgd hr args Q hl h => by
    obtain ⟨n, rfl, hn, h⟩ := h
    refine ⟨_, (bss_cons (bs_set 1 sc__law_many.nd (bv 0))
      (bss_cons (bs_for PassesOwn.never rfl (bi_range2 rfl T.n_range (ba_cons be_int (ba_cons (be_add (bv 0) be_int) ba_nil))) (bg_name 2 sc__law_many.nd) (bss_one (bs_set 1 sc__law_many.nd (be_mul (bv 1) (bv 2)))))
      (bss_one (bs_ret (bv 1))))), ?_⟩
    refine atEnv [.fz (.int n), .un, .un] rfl ?_
    simp only [bSeq, bRet, bAsg, bPar, bPar3, bTup4, gStore, bIfS, bNext, bDrop, bVar, bC, bOp, bUn, bII, bIC, bIB, asInts, asInt, asBool, asStrs, asStr, asView, vw, bCons, bNil, bTup, bLst, bFz, Ow.dat, bCB, one1, b1Len, lenD, b1List, b1Tuple, itemsOf, itemsL, itemsT, b1Int, b1Abs, b1Str, bIsi, bB, bAnd, bOr, bNot, bAndV, bOrV, bNotV, bChain, bIf, bIx, bMt, isL, mOwn, asDatas, datas, Option.map_some, fAppend, fPop, fPopAt, fRemove, mIndex, bCatL, ownL, bCatT, bRepL, bInI, bRevL, bRevT, bSl, oNone, oSome, bLstRg1, bTupRg1, bDown, bCall, callW, plainB, bCallK, List.getElem?_cons_zero, List.getElem?_cons_succ, List.set_cons_zero, List.set_cons_succ, endsF, intsD_map, b1Sorted, biTup, biSeq, biR1, biR2, b1Repr, isRefD, bAsI, bAsB, bAsD, bAsO, bNeE, atI_0, atI_1, dk, gTupB, gTups, bRaise, bDkS, bDkD, bDkP, bDkA, bDkPut, bDkNew, bDkCat]
    unfold bFor
    simp only [bSeq, bRet, bAsg, bPar, bPar3, bTup4, gStore, bIfS, bNext, bDrop, bVar, bC, bOp, bUn, bII, bIC, bIB, asInts, asInt, asBool, asStrs, asStr, asView, vw, bCons, bNil, bTup, bLst, bFz, Ow.dat, bCB, one1, b1Len, lenD, b1List, b1Tuple, itemsOf, itemsL, itemsT, b1Int, b1Abs, b1Str, bIsi, bB, bAnd, bOr, bNot, bAndV, bOrV, bNotV, bChain, bIf, bIx, bMt, isL, mOwn, asDatas, datas, Option.map_some, fAppend, fPop, fPopAt, fRemove, mIndex, bCatL, ownL, bCatT, bRepL, bInI, bRevL, bRevT, bSl, oNone, oSome, bLstRg1, bTupRg1, bDown, bCall, callW, plainB, bCallK, List.getElem?_cons_zero, List.getElem?_cons_succ, List.set_cons_zero, List.set_cons_succ, endsF, intsD_map, b1Sorted, biTup, biSeq, biR1, biR2, b1Repr, isRefD, bAsI, bAsB, bAsD, bAsO, bNeE, atI_0, atI_1, dk, gTupB, gTups, bRaise, bDkS, bDkD, bDkP, bDkA, bDkPut, bDkNew, bDkCat]
    have ek : ((n : Int) + 2 - 2).toNat = n := by omega
    rw [ek]
    refine ⟨⟨by omega, by omega, by omega, by omega⟩, fun i e => ∃ s2, e = [.fz (.int n), .fz (.int (n * fac (i + 1))), s2], ⟨.un, by simp [fac]⟩, ?_, ?_⟩
    · rintro i d e hi ⟨s2, rfl⟩
      obtain ⟨h1, rfl⟩ := range_get hi
      simp only [bSeq, bRet, bAsg, bPar, bPar3, bTup4, gStore, bIfS, bNext, bDrop, bVar, bC, bOp, bUn, bII, bIC, bIB, asInts, asInt, asBool, asStrs, asStr, asView, vw, bCons, bNil, bTup, bLst, bFz, Ow.dat, bCB, one1, b1Len, lenD, b1List, b1Tuple, itemsOf, itemsL, itemsT, b1Int, b1Abs, b1Str, bIsi, bB, bAnd, bOr, bNot, bAndV, bOrV, bNotV, bChain, bIf, bIx, bMt, isL, mOwn, asDatas, datas, Option.map_some, fAppend, fPop, fPopAt, fRemove, mIndex, bCatL, ownL, bCatT, bRepL, bInI, bRevL, bRevT, bSl, oNone, oSome, bLstRg1, bTupRg1, bDown, bCall, callW, plainB, bCallK, List.getElem?_cons_zero, List.getElem?_cons_succ, List.set_cons_zero, List.set_cons_succ, endsF, intsD_map, b1Sorted, biTup, biSeq, biR1, biR2, b1Repr, isRefD, bAsI, bAsB, bAsD, bAsO, bNeE, atI_0, atI_1, dk, gTupB, gTups, bRaise, bDkS, bDkD, bDkP, bDkA, bDkPut, bDkNew, bDkCat]
      refine ⟨.inr ⟨by omega, by omega⟩, .fz (.int (2 + (i : Int))), ?_⟩
      have e1 : (n : Int) * fac (i + 1) * (2 + (i : Int)) = n * fac (i + 1 + 1) := by
        rw [Int.mul_assoc]
        congr 1
        show _ = fac (i + 1) * (((i + 1 : Nat) : Int) + 1)
        congr 1
        omega
      rw [e1]
    · rintro e ⟨s2, rfl⟩
      rw [range_len]
      simp only [bSeq, bRet, bAsg, bPar, bPar3, bTup4, gStore, bIfS, bNext, bDrop, bVar, bC, bOp, bUn, bII, bIC, bIB, asInts, asInt, asBool, asStrs, asStr, asView, vw, bCons, bNil, bTup, bLst, bFz, Ow.dat, bCB, one1, b1Len, lenD, b1List, b1Tuple, itemsOf, itemsL, itemsT, b1Int, b1Abs, b1Str, bIsi, bB, bAnd, bOr, bNot, bAndV, bOrV, bNotV, bChain, bIf, bIx, bMt, isL, mOwn, asDatas, datas, Option.map_some, fAppend, fPop, fPopAt, fRemove, mIndex, bCatL, ownL, bCatT, bRepL, bInI, bRevL, bRevT, bSl, oNone, oSome, bLstRg1, bTupRg1, bDown, bCall, callW, plainB, bCallK, List.getElem?_cons_zero, List.getElem?_cons_succ, List.set_cons_zero, List.set_cons_succ, endsF, intsD_map, b1Sorted, biTup, biSeq, biR1, biR2, b1Repr, isRefD, bAsI, bAsB, bAsD, bAsO, bNeE, atI_0, atI_1, dk, gTupB, gTups, bRaise, bDkS, bDkD, bDkP, bDkA, bDkPut, bDkNew, bDkCat]
      exact h
abbrev st__law_rows : Stmt := top 15
abbrev N__law_rows : List Str := ["n", "found", "turn", "fresh", "own", "thing"]
theorem sc__law_rows : FnScope N__law_rows ["n"] (defScope st__law_rows) := ⟨rfl, rfl, rfl, by decide +kernel, rfl, by decide +kernel, by decide +kernel⟩
def ext (m : Nat) (rows : List (List Int)) : List (List Int) := rows.flatMap fun own => ((rgI m).filter fun t => true != decide (t ∈ own)).map fun t => own ++ [t]
def rowsN (m : Nat) : Nat → List (List Int)
  | 0 => [[]]
  | k + 1 => ext m (rowsN m k)
def rowD (r : List Int) : PyData := .tuple (r.map PyData.int)
theorem get_rows {rows : List (List Int)} {i : Nat} {d : PyData} (h : (rows.map rowD)[i]? = some d) : ∃ r, rows[i]? = some r ∧ d = rowD r := by
  rw [List.getElem?_map] at h
  cases e : rows[i]? with
  | none =>
    rw [e] at h
    cases h
  | some t =>
    rw [e] at h
    exact ⟨t, rfl, (Option.some.inj h).symm⟩
theorem ext_len (m : Nat) : ∀ rows : List (List Int), (ext m rows).length ≤ rows.length * m
  | [] => by simp [ext]
  | r :: rs => by
    have ih := ext_len m rs
    have e : ext m (r :: rs) = (((rgI m).filter fun t => true != decide (t ∈ r)).map fun t => r ++ [t]) ++ ext m rs := by simp [ext]
    have h1 := List.length_filter_le (fun t => true != decide (t ∈ r)) (rgI m)
    rw [rgI_len] at h1
    rw [e, List.length_append, List.length_map, List.length_cons, Nat.add_mul]
    omega
theorem rowsN_len {m : Nat} (hm : m ≤ 5) : ∀ k, (rowsN m k).length ≤ 5 ^ k
  | 0 => by simp [rowsN]
  | k + 1 => by
    have ih := rowsN_len hm k
    have h := ext_len m (rowsN m k)
    have h2 : (rowsN m k).length * m ≤ 5 ^ k * 5 := Nat.mul_le_mul ih hm
    show (ext m (rowsN m k)).length ≤ _
    rw [Nat.pow_succ]
    omega
theorem rowsN_row (m : Nat) : ∀ k, ∀ r ∈ rowsN m k, r.length = k
  | 0, r, h => by
    simp [rowsN] at h
    subst h
    rfl
  | k + 1, r, h => by
    have h' : r ∈ ext m (rowsN m k) := h
    unfold ext at h'
    obtain ⟨o, ho, hr⟩ := List.mem_flatMap.mp h'
    obtain ⟨t, _, e⟩ := List.mem_map.mp hr
    subst e
    rw [List.length_append, rowsN_row m k o ho]
    rfl
def ph__law_rows : Ph := fun args Q => ∃ n : Nat, args = [.fz (.int n)] ∧ n ≤ 4 ∧ Q (.fz (.list ((rowsN (n + 1) (n + 1)).map rowD))) [.un]
theorem ok__law_rows (T : Txt mg) (F : Fun K "_law_rows" "_law_rows" st__law_rows f fd) : FnG P w K mg base CX0 1 f fd ["n"] (spB K 1 ph__law_rows) :=
  fg_ok (pins := []) F sc__law_rows rfl (by decide) (fun args Q ⟨n, e, _⟩ => by subst e; rfl) fun cdv A outer s H E hgd hr args Q hl h => by
    obtain ⟨n, rfl, hn, h⟩ := h
    refine ⟨_, (bss_cons (bs_set 1 sc__law_rows.nd (be_fz (be_lst (ba_cons (be_tup ba_nil) ba_nil))))
      (bss_cons (bs_for PassesOwn.never rfl (bi_range1 rfl T.n_range (ba_cons (be_add (bv 0) be_int) ba_nil)) (bg_name 2 sc__law_rows.nd) (bss_cons (bs_set 3 sc__law_rows.nd (be_lst ba_nil))
      (bss_cons (bs_for PassesOwn.never rfl (bi_list (be_fz (bv 1))) (bg_name 4 sc__law_rows.nd) (bss_one (bs_set 3 sc__law_rows.nd (be_catL (bv 3) (be_lc [("thing", 5)] rfl sc__law_rows.nd (bi_range1 rfl T.n_range (ba_cons (be_add (bv 0) be_int) ba_nil)) (blkOk_by (own := [("thing", 5)]) (N := N__law_rows) (sc := defScope st__law_rows) (by decide +kernel)) (fun _ _ _ _ _ => pg_name (i := 5) sc__law_rows.nd rfl (Or.inl rfl)) (sd_name (by decide)) (fun _ _ _ _ _ => bts_one (bt_cmp cr_notInI (bv 5) (bv 4))) (fun _ _ _ _ _ => (be_catT (bv 4) (be_tup (ba_cons (bv 5) ba_nil)))))))))
      (bss_one (bs_set 1 sc__law_rows.nd (be_fz (bv 3)))))))
      (bss_one (bs_ret (bv 1))))), ?_⟩
    refine atEnv [.fz (.int n), .un, .un, .un, .un, .un] rfl ?_
    simp only [bSeq, bRet, bAsg, bPar, bPar3, bTup4, gStore, bIfS, bNext, bDrop, bVar, bC, bOp, bUn, bII, bIC, bIB, asInts, asInt, asBool, asStrs, asStr, asView, vw, bCons, bNil, bTup, bLst, bFz, Ow.dat, bCB, one1, b1Len, lenD, b1List, b1Tuple, itemsOf, itemsL, itemsT, b1Int, b1Abs, b1Str, bIsi, bB, bAnd, bOr, bNot, bAndV, bOrV, bNotV, bChain, bIf, bIx, bMt, isL, mOwn, asDatas, datas, Option.map_some, fAppend, fPop, fPopAt, fRemove, mIndex, bCatL, ownL, bCatT, bRepL, bInI, bRevL, bRevT, bSl, oNone, oSome, bLstRg1, bTupRg1, bDown, bCall, callW, plainB, bCallK, List.getElem?_cons_zero, List.getElem?_cons_succ, List.set_cons_zero, List.set_cons_succ, endsF, intsD_map, b1Sorted, biTup, biSeq, biR1, biR2, b1Repr, isRefD, bAsI, bAsB, bAsD, bAsO, bNeE, atI_0, atI_1, dk, gTupB, gTups, bRaise, bDkS, bDkD, bDkP, bDkA, bDkPut, bDkNew, bDkCat]
    unfold bFor
    simp only [bSeq, bRet, bAsg, bPar, bPar3, bTup4, gStore, bIfS, bNext, bDrop, bVar, bC, bOp, bUn, bII, bIC, bIB, asInts, asInt, asBool, asStrs, asStr, asView, vw, bCons, bNil, bTup, bLst, bFz, Ow.dat, bCB, one1, b1Len, lenD, b1List, b1Tuple, itemsOf, itemsL, itemsT, b1Int, b1Abs, b1Str, bIsi, bB, bAnd, bOr, bNot, bAndV, bOrV, bNotV, bChain, bIf, bIx, bMt, isL, mOwn, asDatas, datas, Option.map_some, fAppend, fPop, fPopAt, fRemove, mIndex, bCatL, ownL, bCatT, bRepL, bInI, bRevL, bRevT, bSl, oNone, oSome, bLstRg1, bTupRg1, bDown, bCall, callW, plainB, bCallK, List.getElem?_cons_zero, List.getElem?_cons_succ, List.set_cons_zero, List.set_cons_succ, endsF, intsD_map, b1Sorted, biTup, biSeq, biR1, biR2, b1Repr, isRefD, bAsI, bAsB, bAsD, bAsO, bNeE, atI_0, atI_1, dk, gTupB, gTups, bRaise, bDkS, bDkD, bDkP, bDkA, bDkPut, bDkNew, bDkCat]
    have ek : ((n : Int) + 1).toNat = n + 1 := by omega
    have hb := line_big
    rw [ek]
    refine ⟨Nat.zero_le _, (by show 1 ≤ sizeLine; omega), ⟨by omega, by omega⟩, fun i e => ∃ s2 s3 s4, e = [.fz (.int n), .fz (.list ((rowsN (n + 1) i).map rowD)), s2, s3, s4, .un], ⟨_, _, _, rfl⟩, ?_, ?_⟩
    · rintro i d e hi ⟨s2, s3, s4, rfl⟩
      obtain ⟨h1, rfl⟩ := range_get hi
      have hrl := rowsN_len (m := n + 1) (by omega) i
      have hp5 : 5 ^ i ≤ 5 ^ 4 := Nat.pow_le_pow_right (by omega) (by omega)
      simp only [bSeq, bRet, bAsg, bPar, bPar3, bTup4, gStore, bIfS, bNext, bDrop, bVar, bC, bOp, bUn, bII, bIC, bIB, asInts, asInt, asBool, asStrs, asStr, asView, vw, bCons, bNil, bTup, bLst, bFz, Ow.dat, bCB, one1, b1Len, lenD, b1List, b1Tuple, itemsOf, itemsL, itemsT, b1Int, b1Abs, b1Str, bIsi, bB, bAnd, bOr, bNot, bAndV, bOrV, bNotV, bChain, bIf, bIx, bMt, isL, mOwn, asDatas, datas, Option.map_some, fAppend, fPop, fPopAt, fRemove, mIndex, bCatL, ownL, bCatT, bRepL, bInI, bRevL, bRevT, bSl, oNone, oSome, bLstRg1, bTupRg1, bDown, bCall, callW, plainB, bCallK, List.getElem?_cons_zero, List.getElem?_cons_succ, List.set_cons_zero, List.set_cons_succ, endsF, intsD_map, b1Sorted, biTup, biSeq, biR1, biR2, b1Repr, isRefD, bAsI, bAsB, bAsD, bAsO, bNeE, atI_0, atI_1, dk, gTupB, gTups, bRaise, bDkS, bDkD, bDkP, bDkA, bDkPut, bDkNew, bDkCat]
      refine ⟨Nat.zero_le _, fun j e => ∃ s4, e = [.fz (.int n), .fz (.list ((rowsN (n + 1) i).map rowD)), .fz (.int (0 + (i : Int))), .ow (.lst ((ext (n + 1) ((rowsN (n + 1) i).take j)).map rowD)), s4, .un], ⟨s4, rfl⟩, ?_, ?_⟩
      · rintro j d e hj ⟨s4, rfl⟩
        obtain ⟨r, hr1, rfl⟩ := get_rows hj
        have hrow : r.length = i := rowsN_row (n + 1) i r (List.mem_of_getElem? hr1)
        have hrd : Sl.fz (rowD r) = .fz (.tuple (r.map PyData.int)) := rfl
        rw [hrd]
        simp only [bSeq, bRet, bAsg, bPar, bPar3, bTup4, gStore, bIfS, bNext, bDrop, bVar, bC, bOp, bUn, bII, bIC, bIB, asInts, asInt, asBool, asStrs, asStr, asView, vw, bCons, bNil, bTup, bLst, bFz, Ow.dat, bCB, one1, b1Len, lenD, b1List, b1Tuple, itemsOf, itemsL, itemsT, b1Int, b1Abs, b1Str, bIsi, bB, bAnd, bOr, bNot, bAndV, bOrV, bNotV, bChain, bIf, bIx, bMt, isL, mOwn, asDatas, datas, Option.map_some, fAppend, fPop, fPopAt, fRemove, mIndex, bCatL, ownL, bCatT, bRepL, bInI, bRevL, bRevT, bSl, oNone, oSome, bLstRg1, bTupRg1, bDown, bCall, callW, plainB, bCallK, List.getElem?_cons_zero, List.getElem?_cons_succ, List.set_cons_zero, List.set_cons_succ, endsF, intsD_map, b1Sorted, biTup, biSeq, biR1, biR2, b1Repr, isRefD, bAsI, bAsB, bAsD, bAsO, bNeE, atI_0, atI_1, dk, gTupB, gTups, bRaise, bDkS, bDkD, bDkP, bDkA, bDkPut, bDkNew, bDkCat]
        unfold bLc
        simp only [dName, wipeE, List.map_cons, List.map_nil]
        simp only [bSeq, bRet, bAsg, bPar, bPar3, bTup4, gStore, bIfS, bNext, bDrop, bVar, bC, bOp, bUn, bII, bIC, bIB, asInts, asInt, asBool, asStrs, asStr, asView, vw, bCons, bNil, bTup, bLst, bFz, Ow.dat, bCB, one1, b1Len, lenD, b1List, b1Tuple, itemsOf, itemsL, itemsT, b1Int, b1Abs, b1Str, bIsi, bB, bAnd, bOr, bNot, bAndV, bOrV, bNotV, bChain, bIf, bIx, bMt, isL, mOwn, asDatas, datas, Option.map_some, fAppend, fPop, fPopAt, fRemove, mIndex, bCatL, ownL, bCatT, bRepL, bInI, bRevL, bRevT, bSl, oNone, oSome, bLstRg1, bTupRg1, bDown, bCall, callW, plainB, bCallK, List.getElem?_cons_zero, List.getElem?_cons_succ, List.set_cons_zero, List.set_cons_succ, endsF, intsD_map, b1Sorted, biTup, biSeq, biR1, biR2, b1Repr, isRefD, bAsI, bAsB, bAsD, bAsO, bNeE, atI_0, atI_1, dk, gTupB, gTups, bRaise, bDkS, bDkD, bDkP, bDkA, bDkPut, bDkNew, bDkCat]
        rw [ek]
        refine ⟨⟨by omega, by omega⟩, fun t acc e => acc = (((rgI (n + 1)).take t).filter fun x => true != decide (x ∈ r)).map (fun x => rowD (r ++ [x])) ∧ e = [.fz (.int n), .fz (.list ((rowsN (n + 1) i).map rowD)), .fz (.int (0 + (i : Int))), .ow (.lst ((ext (n + 1) ((rowsN (n + 1) i).take j)).map rowD)), .fz (.tuple (r.map PyData.int)), .un], ⟨rfl, rfl⟩, ?_, ?_⟩
        · rintro t d acc e ht ⟨rfl, rfl⟩
          obtain ⟨h2, rfl⟩ := range_get ht
          have h3 : (rgI (n + 1))[t]? = some (0 + (t : Int)) := by
            unfold rgI
            rw [List.getElem?_map, List.getElem?_range h2]
            simp
          have hacc : ((((rgI (n + 1)).take t).filter fun x => true != decide (x ∈ r)).map (fun x => rowD (r ++ [x]))).length ≤ n + 1 := by
            rw [List.length_map]
            refine Nat.le_trans (List.length_filter_le _ _) ?_
            rw [List.length_take, rgI_len]
            omega
          simp only [bSeq, bRet, bAsg, bPar, bPar3, bTup4, gStore, bIfS, bNext, bDrop, bVar, bC, bOp, bUn, bII, bIC, bIB, asInts, asInt, asBool, asStrs, asStr, asView, vw, bCons, bNil, bTup, bLst, bFz, Ow.dat, bCB, one1, b1Len, lenD, b1List, b1Tuple, itemsOf, itemsL, itemsT, b1Int, b1Abs, b1Str, bIsi, bB, bAnd, bOr, bNot, bAndV, bOrV, bNotV, bChain, bIf, bIx, bMt, isL, mOwn, asDatas, datas, Option.map_some, fAppend, fPop, fPopAt, fRemove, mIndex, bCatL, ownL, bCatT, bRepL, bInI, bRevL, bRevT, bSl, oNone, oSome, bLstRg1, bTupRg1, bDown, bCall, callW, plainB, bCallK, List.getElem?_cons_zero, List.getElem?_cons_succ, List.set_cons_zero, List.set_cons_succ, endsF, intsD_map, b1Sorted, biTup, biSeq, biR1, biR2, b1Repr, isRefD, bAsI, bAsB, bAsD, bAsO, bNeE, atI_0, atI_1, dk, gTupB, gTups, bRaise, bDkS, bDkD, bDkP, bDkA, bDkPut, bDkNew, bDkCat]
          rw [take_nx h3, List.filter_append]
          refine ifB (fun h4 => ?_) (fun h4 => ?_)
          · refine ⟨by show 1 ≤ sizeLine; omega, by simp; omega, by omega, ?_⟩
            rw [List.filter_cons_of_pos (by simpa using h4), List.filter_nil, List.map_append]
            refine ⟨?_, trivial⟩
            simp [rowD]
          · rw [List.filter_cons_of_neg (by simpa using h4), List.filter_nil, List.append_nil]
            exact ⟨rfl, trivial⟩
        · rintro acc e ⟨rfl, rfl⟩
          rw [range_len]
          have e5 : (rgI (n + 1)).take (n + 1) = rgI (n + 1) := List.take_of_length_le (by rw [rgI_len]; exact Nat.le_refl _)
          rw [e5]
          simp only [bSeq, bRet, bAsg, bPar, bPar3, bTup4, gStore, bIfS, bNext, bDrop, bVar, bC, bOp, bUn, bII, bIC, bIB, asInts, asInt, asBool, asStrs, asStr, asView, vw, bCons, bNil, bTup, bLst, bFz, Ow.dat, bCB, one1, b1Len, lenD, b1List, b1Tuple, itemsOf, itemsL, itemsT, b1Int, b1Abs, b1Str, bIsi, bB, bAnd, bOr, bNot, bAndV, bOrV, bNotV, bChain, bIf, bIx, bMt, isL, mOwn, asDatas, datas, Option.map_some, fAppend, fPop, fPopAt, fRemove, mIndex, bCatL, ownL, bCatT, bRepL, bInI, bRevL, bRevT, bSl, oNone, oSome, bLstRg1, bTupRg1, bDown, bCall, callW, plainB, bCallK, List.getElem?_cons_zero, List.getElem?_cons_succ, List.set_cons_zero, List.set_cons_succ, endsF, intsD_map, b1Sorted, biTup, biSeq, biR1, biR2, b1Repr, isRefD, bAsI, bAsB, bAsD, bAsO, bNeE, atI_0, atI_1, dk, gTupB, gTups, bRaise, bDkS, bDkD, bDkP, bDkA, bDkPut, bDkNew, bDkCat]
          have hx := ext_len (n + 1) ((rowsN (n + 1) i).take j)
          have hy : ((rowsN (n + 1) i).take j).length ≤ (rowsN (n + 1) i).length := by
            rw [List.length_take]
            omega
          have hz : ((rowsN (n + 1) i).take j).length * (n + 1) ≤ 625 * 5 := Nat.mul_le_mul (by omega) (by omega)
          refine ⟨?_, .fz (.tuple (r.map PyData.int)), ?_⟩
          · rw [List.length_map, List.length_map]
            have := List.length_filter_le (fun x => true != decide (x ∈ r)) (rgI (n + 1))
            rw [rgI_len] at this
            omega
          · have e6 : (ext (n + 1) ((rowsN (n + 1) i).take (j + 1))).map rowD = (ext (n + 1) ((rowsN (n + 1) i).take j)).map rowD ++ ((rgI (n + 1)).filter fun x => true != decide (x ∈ r)).map (fun x => rowD (r ++ [x])) := by
              rw [take_nx hr1]
              unfold ext
              rw [List.flatMap_append, List.map_append]
              simp
            rw [e6]
      · rintro e ⟨s4, rfl⟩
        rw [List.length_map, List.take_length]
        simp only [bSeq, bRet, bAsg, bPar, bPar3, bTup4, gStore, bIfS, bNext, bDrop, bVar, bC, bOp, bUn, bII, bIC, bIB, asInts, asInt, asBool, asStrs, asStr, asView, vw, bCons, bNil, bTup, bLst, bFz, Ow.dat, bCB, one1, b1Len, lenD, b1List, b1Tuple, itemsOf, itemsL, itemsT, b1Int, b1Abs, b1Str, bIsi, bB, bAnd, bOr, bNot, bAndV, bOrV, bNotV, bChain, bIf, bIx, bMt, isL, mOwn, asDatas, datas, Option.map_some, fAppend, fPop, fPopAt, fRemove, mIndex, bCatL, ownL, bCatT, bRepL, bInI, bRevL, bRevT, bSl, oNone, oSome, bLstRg1, bTupRg1, bDown, bCall, callW, plainB, bCallK, List.getElem?_cons_zero, List.getElem?_cons_succ, List.set_cons_zero, List.set_cons_succ, endsF, intsD_map, b1Sorted, biTup, biSeq, biR1, biR2, b1Repr, isRefD, bAsI, bAsB, bAsD, bAsO, bNeE, atI_0, atI_1, dk, gTupB, gTups, bRaise, bDkS, bDkD, bDkP, bDkA, bDkPut, bDkNew, bDkCat]
        exact ⟨_, _, _, rfl⟩
    · rintro e ⟨s2, s3, s4, rfl⟩
      rw [range_len]
      simp only [bSeq, bRet, bAsg, bPar, bPar3, bTup4, gStore, bIfS, bNext, bDrop, bVar, bC, bOp, bUn, bII, bIC, bIB, asInts, asInt, asBool, asStrs, asStr, asView, vw, bCons, bNil, bTup, bLst, bFz, Ow.dat, bCB, one1, b1Len, lenD, b1List, b1Tuple, itemsOf, itemsL, itemsT, b1Int, b1Abs, b1Str, bIsi, bB, bAnd, bOr, bNot, bAndV, bOrV, bNotV, bChain, bIf, bIx, bMt, isL, mOwn, asDatas, datas, Option.map_some, fAppend, fPop, fPopAt, fRemove, mIndex, bCatL, ownL, bCatT, bRepL, bInI, bRevL, bRevT, bSl, oNone, oSome, bLstRg1, bTupRg1, bDown, bCall, callW, plainB, bCallK, List.getElem?_cons_zero, List.getElem?_cons_succ, List.set_cons_zero, List.set_cons_succ, endsF, intsD_map, b1Sorted, biTup, biSeq, biR1, biR2, b1Repr, isRefD, bAsI, bAsB, bAsD, bAsO, bNeE, atI_0, atI_1, dk, gTupB, gTups, bRaise, bDkS, bDkD, bDkP, bDkA, bDkPut, bDkNew, bDkCat]
      exact h
end
end K4

set_option maxHeartbeats 400000
/-! k04, part c: numbers and rows. -/
namespace K4
open PySem L2 BV
/-! digits of a number, by 1, 2, 3, .. -/
def szs (m : Nat) : List Int := (List.range m).map fun (i : Nat) => (i : Int) + 1
def stD (s : List Int × Int) (size : Int) : List Int × Int := (s.1 ++ [s.2 % size], s.2 / size)
def dg (m : Nat) (x : Int) : List Int × Int := (szs m).foldl stD ([], x)
/-- picked out one by one -/
def stU (s : List Int × List Int) (k : Int) : List Int × List Int := (s.1.eraseIdx k.toNat, s.2 ++ [s.1.getD k.toNat 0])
def unr (m : Nat) (x : Int) : List Int := ((dg m x).1.reverse.foldl stU (rgI m, [])).2
theorem szs_get {m i : Nat} (h : i < m) : (szs m)[i]? = some ((i : Int) + 1) := by
  unfold szs
  rw [List.getElem?_map, List.getElem?_range h]
  rfl
theorem szs_len (m : Nat) : (szs m).length = m := by simp [szs]
theorem szs_succ (m : Nat) : szs (m + 1) = szs m ++ [(m : Int) + 1] := by
  unfold szs
  rw [List.range_succ, List.map_append]
  rfl
theorem dg_succ (m : Nat) (x : Int) : dg (m + 1) x = stD (dg m x) ((m : Int) + 1) := by
  unfold dg
  rw [szs_succ, List.foldl_append]
  rfl
theorem dg_len : ∀ (m : Nat) (x : Int), (dg m x).1.length = m
  | 0, x => rfl
  | m + 1, x => by
    rw [dg_succ]
    unfold stD
    simp [dg_len m x]
theorem dg_ok : ∀ (m : Nat) (x : Int) (k : Nat) (s : Int), (dg m x).1[k]? = some s → 0 ≤ s ∧ s < (k : Int) + 1
  | 0, x, k, s, h => by simp [dg, szs] at h
  | m + 1, x, k, s, h => by
    rw [dg_succ] at h
    unfold stD at h
    by_cases hk : k < m
    · rw [List.getElem?_append_left (by rw [dg_len]; exact hk)] at h
      exact dg_ok m x k s h
    · rw [List.getElem?_append_right (by rw [dg_len]; omega), dg_len] at h
      by_cases e : k = m
      · subst e
        simp at h
        subst h
        exact ⟨Int.emod_nonneg _ (by omega), Int.emod_lt_of_pos _ (by omega)⟩
      · rw [List.getElem?_eq_none (by simp; omega)] at h
        cases h
section
variable {P : Program} {w : World} {K : Fg} {mg : Str → Option Value} {base : Heap} {f : Addr} {fd : FuncData}
abbrev st__law_number : Stmt := top 16
abbrev N__law_number : List Str := ["n", "standing", "thing", "left", "found"]
theorem sc__law_number : FnScope N__law_number ["n", "standing"] (defScope st__law_number) := ⟨rfl, rfl, rfl, by decide +kernel, rfl, by decide +kernel, by decide +kernel⟩
def ph__law_number : Ph := fun args Q => ∃ (n : Nat) (st : Int) (ns : List Int), args = [.fz (.int n), .fz (.tuple [.tuple (ns.map PyData.int), .int st])] ∧ ns.Perm (rgI (n + 1)) ∧ n ≤ 100 ∧ Q (.fz (.int (rank (rgI (n + 1)) ns * n + st))) [.un, .un]
theorem ok__law_number (T : Txt mg) (F : Fun K "_law_number" "_law_number" st__law_number f fd) : FnG P w K mg base CX0 1 f fd ["n", "standing"] (spB K 2 ph__law_number) :=
  fg_ok (pins := []) F sc__law_number rfl (by decide) (fun args Q ⟨n, st, ns, e, _⟩ => by subst e; rfl) fun cdv A outer s H E hgd hr args Q hl h => by
    obtain ⟨n, st, ns, rfl, hp, hm, h⟩ := h
    refine ⟨_, (bss_cons (bs_par 3 4 rfl sc__law_number.nd (ba_cons (be_listRg1 rfl rfl T.n_list rfl T.n_range (be_add (bv 0) be_int)) (ba_cons be_int ba_nil)) (h := fun ta hta => ps_par rfl sc__law_number.nd rfl rfl (by decide) rfl rfl hta (by rfl)))
      (bss_cons (bs_for PassesOwn.never rfl (bi_tup (be_ix (bv 1) be_int)) (bg_name 2 sc__law_number.nd) (bss_cons (bs_set 4 sc__law_number.nd (be_add (be_mul (bv 4) (be_cb cq_len rfl T.n_len PySem.boot_len (ba_cons (bv 3) ba_nil))) (be_index (hu65 hr) (bv 3) (ba_cons (bv 2) ba_nil))))
      (bss_one (bs_expr (be_remove (bv 3) (ba_cons (bv 2) ba_nil))))))
      (bss_one (bs_ret (be_add (be_mul (bv 4) (bv 0)) (be_ix (bv 1) be_int)))))), ?_⟩
    refine atEnv [.fz (.int n), .fz (.tuple [.tuple (ns.map PyData.int), .int st]), .un, .un, .un] rfl ?_
    have hb := line_big
    have ek : ((n : Int) + 1).toNat = n + 1 := by omega
    simp only [bSeq, bRet, bAsg, bPar, bPar3, bTup4, gStore, bIfS, bNext, bDrop, bVar, bC, bOp, bUn, bII, bIC, bIB, asInts, asInt, asBool, asStrs, asStr, asView, vw, bCons, bNil, bTup, bLst, bFz, Ow.dat, bCB, one1, b1Len, lenD, b1List, b1Tuple, itemsOf, itemsL, itemsT, b1Int, b1Abs, b1Str, bIsi, bB, bAnd, bOr, bNot, bAndV, bOrV, bNotV, bChain, bIf, bIx, bMt, isL, mOwn, asDatas, datas, Option.map_some, fAppend, fPop, fPopAt, fRemove, mIndex, bCatL, ownL, bCatT, bRepL, bInI, bRevL, bRevT, bSl, oNone, oSome, bLstRg1, bTupRg1, bDown, bCall, callW, plainB, bCallK, List.getElem?_cons_zero, List.getElem?_cons_succ, List.set_cons_zero, List.set_cons_succ, endsF, intsD_map, b1Sorted, biTup, biSeq, biR1, biR2, b1Repr, isRefD, bAsI, bAsB, bAsD, bAsO, bNeE, atI_0, atI_1, dk, gTupB, gTups, bRaise, bDkS, bDkD, bDkP, bDkA, bDkPut, bDkNew, bDkCat]
    unfold bFor
    simp only [bSeq, bRet, bAsg, bPar, bPar3, bTup4, gStore, bIfS, bNext, bDrop, bVar, bC, bOp, bUn, bII, bIC, bIB, asInts, asInt, asBool, asStrs, asStr, asView, vw, bCons, bNil, bTup, bLst, bFz, Ow.dat, bCB, one1, b1Len, lenD, b1List, b1Tuple, itemsOf, itemsL, itemsT, b1Int, b1Abs, b1Str, bIsi, bB, bAnd, bOr, bNot, bAndV, bOrV, bNotV, bChain, bIf, bIx, bMt, isL, mOwn, asDatas, datas, Option.map_some, fAppend, fPop, fPopAt, fRemove, mIndex, bCatL, ownL, bCatT, bRepL, bInI, bRevL, bRevT, bSl, oNone, oSome, bLstRg1, bTupRg1, bDown, bCall, callW, plainB, bCallK, List.getElem?_cons_zero, List.getElem?_cons_succ, List.set_cons_zero, List.set_cons_succ, endsF, intsD_map, b1Sorted, biTup, biSeq, biR1, biR2, b1Repr, isRefD, bAsI, bAsB, bAsD, bAsO, bNeE, atI_0, atI_1, dk, gTupB, gTups, bRaise, bDkS, bDkD, bDkP, bDkA, bDkPut, bDkNew, bDkCat]
    rw [ek, rangeD_rgI]
    have hlen : ns.length = n + 1 := by rw [hp.length_eq, rgI_len]
    refine ⟨⟨by omega, by omega, by omega, by omega⟩, fun i e => ∃ s2 S, (ns.take i).foldl stp (rgI (n + 1), 0) = S ∧ e = [.fz (.int n), .fz (.tuple [.tuple (ns.map PyData.int), .int st]), s2, .ow (.lst (S.1.map PyData.int)), .fz (.int S.2)] ∧ S.1.Perm (ns.drop i), ⟨_, _, rfl, rfl, hp.symm⟩, ?_, ?_⟩
    · rintro i d e hi ⟨s2, S, hS, rfl, hI⟩
      obtain ⟨t, ht, rfl⟩ := get_ints hi
      rw [drop_nx ht] at hI
      obtain ⟨j, e1, e2, e3⟩ := idx_perm hI
      have hz : S.1.length ≤ n + 1 := by
        have := hI.length_eq
        have hi2 := (List.getElem?_eq_some_iff.mp ht).1
        simp at this
        omega
      simp only [bSeq, bRet, bAsg, bPar, bPar3, bTup4, gStore, bIfS, bNext, bDrop, bVar, bC, bOp, bUn, bII, bIC, bIB, asInts, asInt, asBool, asStrs, asStr, asView, vw, bCons, bNil, bTup, bLst, bFz, Ow.dat, bCB, one1, b1Len, lenD, b1List, b1Tuple, itemsOf, itemsL, itemsT, b1Int, b1Abs, b1Str, bIsi, bB, bAnd, bOr, bNot, bAndV, bOrV, bNotV, bChain, bIf, bIx, bMt, isL, mOwn, asDatas, datas, Option.map_some, fAppend, fPop, fPopAt, fRemove, mIndex, bCatL, ownL, bCatT, bRepL, bInI, bRevL, bRevT, bSl, oNone, oSome, bLstRg1, bTupRg1, bDown, bCall, callW, plainB, bCallK, List.getElem?_cons_zero, List.getElem?_cons_succ, List.set_cons_zero, List.set_cons_succ, endsF, intsD_map, b1Sorted, biTup, biSeq, biR1, biR2, b1Repr, isRefD, bAsI, bAsB, bAsD, bAsO, bNeE, atI_0, atI_1, dk, gTupB, gTups, bRaise, bDkS, bDkD, bDkP, bDkA, bDkPut, bDkNew, bDkCat]
      rw [idxD_ints, e1]
      refine ⟨by rw [List.length_map]; exact cmul_len (by omega), rfl, ⟨shaped_ints _, rfl⟩, ?_⟩
      simp only [bSeq, bRet, bAsg, bPar, bPar3, bTup4, gStore, bIfS, bNext, bDrop, bVar, bC, bOp, bUn, bII, bIC, bIB, asInts, asInt, asBool, asStrs, asStr, asView, vw, bCons, bNil, bTup, bLst, bFz, Ow.dat, bCB, one1, b1Len, lenD, b1List, b1Tuple, itemsOf, itemsL, itemsT, b1Int, b1Abs, b1Str, bIsi, bB, bAnd, bOr, bNot, bAndV, bOrV, bNotV, bChain, bIf, bIx, bMt, isL, mOwn, asDatas, datas, Option.map_some, fAppend, fPop, fPopAt, fRemove, mIndex, bCatL, ownL, bCatT, bRepL, bInI, bRevL, bRevT, bSl, oNone, oSome, bLstRg1, bTupRg1, bDown, bCall, callW, plainB, bCallK, List.getElem?_cons_zero, List.getElem?_cons_succ, List.set_cons_zero, List.set_cons_succ, endsF, intsD_map, b1Sorted, biTup, biSeq, biR1, biR2, b1Repr, isRefD, bAsI, bAsB, bAsD, bAsO, bNeE, atI_0, atI_1, dk, gTupB, gTups, bRaise, bDkS, bDkD, bDkP, bDkA, bDkPut, bDkNew, bDkCat]
      refine ⟨rfl, ?_⟩
      refine ⟨.fz (.int t), stp S t, by rw [take_nx ht, List.foldl_append, hS]; rfl, ?_, ?_⟩
      · unfold stp
        rw [e1, List.length_map]
        rfl
      · unfold stp
        rw [e1]
        exact e3
    · rintro e ⟨s2, S, hS, rfl, hI⟩
      rw [List.length_map, List.take_length] at hS
      simp only [bSeq, bRet, bAsg, bPar, bPar3, bTup4, gStore, bIfS, bNext, bDrop, bVar, bC, bOp, bUn, bII, bIC, bIB, asInts, asInt, asBool, asStrs, asStr, asView, vw, bCons, bNil, bTup, bLst, bFz, Ow.dat, bCB, one1, b1Len, lenD, b1List, b1Tuple, itemsOf, itemsL, itemsT, b1Int, b1Abs, b1Str, bIsi, bB, bAnd, bOr, bNot, bAndV, bOrV, bNotV, bChain, bIf, bIx, bMt, isL, mOwn, asDatas, datas, Option.map_some, fAppend, fPop, fPopAt, fRemove, mIndex, bCatL, ownL, bCatT, bRepL, bInI, bRevL, bRevT, bSl, oNone, oSome, bLstRg1, bTupRg1, bDown, bCall, callW, plainB, bCallK, List.getElem?_cons_zero, List.getElem?_cons_succ, List.set_cons_zero, List.set_cons_succ, endsF, intsD_map, b1Sorted, biTup, biSeq, biR1, biR2, b1Repr, isRefD, bAsI, bAsB, bAsD, bAsO, bNeE, atI_0, atI_1, dk, gTupB, gTups, bRaise, bDkS, bDkD, bDkP, bDkA, bDkPut, bDkNew, bDkCat]
      unfold rank at h
      rw [hS] at h
      exact ⟨.inr ⟨by omega, by omega⟩, h⟩
abbrev st_row_at : Stmt := top 7
abbrev N_row_at : List Str := ["many", "number", "spots", "size", "left", "spot"]
theorem sc_row_at : FnScope N_row_at ["many", "number"] (defScope st_row_at) := ⟨rfl, rfl, rfl, by decide +kernel, rfl, by decide +kernel, by decide +kernel⟩
def ph_row_at : Ph := fun args Q => ∃ (m : Nat) (x : Int), args = [.fz (.int m), .fz (.int x)] ∧ m ≤ 100 ∧ Q (.fz (.tuple [.tuple ((unr m x).map PyData.int), .int (dg m x).2])) [.un, .un]
theorem ok_row_at (T : Txt mg) (F : Fun K "row_at" "row_at" st_row_at f fd) : FnG P w K mg base CX0 1 f fd ["many", "number"] (spB K 2 ph_row_at) :=
  fg_ok (pins := []) F sc_row_at rfl (by decide) (fun args Q ⟨m, x, e, _⟩ => by subst e; rfl) fun cdv A outer s H E hgd hr args Q hl h => by
    obtain ⟨m, x, rfl, hm, h⟩ := h
    refine ⟨_, (bss_cons (bs_set 2 sc_row_at.nd (be_lst ba_nil))
      (bss_cons (bs_for PassesOwn.never rfl (bi_range2 rfl T.n_range (ba_cons be_int (ba_cons (be_add (bv 0) be_int) ba_nil))) (bg_name 3 sc_row_at.nd) (bss_cons (bs_expr (be_append (bv 2) (ba_cons (be_mod (bv 1) (bv 3)) ba_nil)))
      (bss_one (bs_set 1 sc_row_at.nd (be_fdivW (bv 1) (bv 3))))))
      (bss_cons (bs_set 4 sc_row_at.nd (be_listRg1 rfl rfl T.n_list rfl T.n_range (bv 0)))
      (bss_one (bs_ret (be_tup (ba_cons (be_ct cq_tuple rfl T.n_tuple PyProof.Rows.boot_tuple (ba_cons (be_lc [("spot", 5)] rfl sc_row_at.nd (bi_list (be_fz (be_revL (bv 2)))) (blkOk_by (own := [("spot", 5)]) (N := N_row_at) (sc := defScope st_row_at) (by decide +kernel)) (fun _ _ _ _ _ => pg_name (i := 5) sc_row_at.nd rfl (Or.inl rfl)) (sd_name (by decide)) (fun _ _ _ _ _ => bts_nil) (fun _ _ _ _ _ => (be_popAt (bv 4) (ba_cons (bv 5) ba_nil)))) ba_nil)) (ba_cons (bv 1) ba_nil)))))))), ?_⟩
    refine atEnv [.fz (.int m), .fz (.int x), .un, .un, .un, .un] rfl ?_
    have hb := line_big
    have ek : ((m : Int) + 1 - 1).toNat = m := by omega
    simp only [bSeq, bRet, bAsg, bPar, bPar3, bTup4, gStore, bIfS, bNext, bDrop, bVar, bC, bOp, bUn, bII, bIC, bIB, asInts, asInt, asBool, asStrs, asStr, asView, vw, bCons, bNil, bTup, bLst, bFz, Ow.dat, bCB, one1, b1Len, lenD, b1List, b1Tuple, itemsOf, itemsL, itemsT, b1Int, b1Abs, b1Str, bIsi, bB, bAnd, bOr, bNot, bAndV, bOrV, bNotV, bChain, bIf, bIx, bMt, isL, mOwn, asDatas, datas, Option.map_some, fAppend, fPop, fPopAt, fRemove, mIndex, bCatL, ownL, bCatT, bRepL, bInI, bRevL, bRevT, bSl, oNone, oSome, bLstRg1, bTupRg1, bDown, bCall, callW, plainB, bCallK, List.getElem?_cons_zero, List.getElem?_cons_succ, List.set_cons_zero, List.set_cons_succ, endsF, intsD_map, b1Sorted, biTup, biSeq, biR1, biR2, b1Repr, isRefD, bAsI, bAsB, bAsD, bAsO, bNeE, atI_0, atI_1, dk, gTupB, gTups, bRaise, bDkS, bDkD, bDkP, bDkA, bDkPut, bDkNew, bDkCat]
    unfold bFor
    simp only [bSeq, bRet, bAsg, bPar, bPar3, bTup4, gStore, bIfS, bNext, bDrop, bVar, bC, bOp, bUn, bII, bIC, bIB, asInts, asInt, asBool, asStrs, asStr, asView, vw, bCons, bNil, bTup, bLst, bFz, Ow.dat, bCB, one1, b1Len, lenD, b1List, b1Tuple, itemsOf, itemsL, itemsT, b1Int, b1Abs, b1Str, bIsi, bB, bAnd, bOr, bNot, bAndV, bOrV, bNotV, bChain, bIf, bIx, bMt, isL, mOwn, asDatas, datas, Option.map_some, fAppend, fPop, fPopAt, fRemove, mIndex, bCatL, ownL, bCatT, bRepL, bInI, bRevL, bRevT, bSl, oNone, oSome, bLstRg1, bTupRg1, bDown, bCall, callW, plainB, bCallK, List.getElem?_cons_zero, List.getElem?_cons_succ, List.set_cons_zero, List.set_cons_succ, endsF, intsD_map, b1Sorted, biTup, biSeq, biR1, biR2, b1Repr, isRefD, bAsI, bAsB, bAsD, bAsO, bNeE, atI_0, atI_1, dk, gTupB, gTups, bRaise, bDkS, bDkD, bDkP, bDkA, bDkPut, bDkNew, bDkCat]
    rw [ek]
    refine ⟨Nat.zero_le _, ⟨by omega, by omega, by omega, by omega⟩, fun i e => ∃ s3, e = [.fz (.int m), .fz (.int (dg i x).2), .ow (.lst ((dg i x).1.map PyData.int)), s3, .un, .un], ⟨.un, rfl⟩, ?_, ?_⟩
    · rintro i d e hi ⟨s3, rfl⟩
      obtain ⟨h1, rfl⟩ := range_get hi
      have e1 : (1 : Int) + (i : Int) = (i : Int) + 1 := by omega
      have hdl := dg_len i x
      rw [e1]
      simp only [bSeq, bRet, bAsg, bPar, bPar3, bTup4, gStore, bIfS, bNext, bDrop, bVar, bC, bOp, bUn, bII, bIC, bIB, asInts, asInt, asBool, asStrs, asStr, asView, vw, bCons, bNil, bTup, bLst, bFz, Ow.dat, bCB, one1, b1Len, lenD, b1List, b1Tuple, itemsOf, itemsL, itemsT, b1Int, b1Abs, b1Str, bIsi, bB, bAnd, bOr, bNot, bAndV, bOrV, bNotV, bChain, bIf, bIx, bMt, isL, mOwn, asDatas, datas, Option.map_some, fAppend, fPop, fPopAt, fRemove, mIndex, bCatL, ownL, bCatT, bRepL, bInI, bRevL, bRevT, bSl, oNone, oSome, bLstRg1, bTupRg1, bDown, bCall, callW, plainB, bCallK, List.getElem?_cons_zero, List.getElem?_cons_succ, List.set_cons_zero, List.set_cons_succ, endsF, intsD_map, b1Sorted, biTup, biSeq, biR1, biR2, b1Repr, isRefD, bAsI, bAsB, bAsD, bAsO, bNeE, atI_0, atI_1, dk, gTupB, gTups, bRaise, bDkS, bDkD, bDkP, bDkA, bDkPut, bDkNew, bDkCat]
      refine ⟨rfl, by omega, ?_⟩
      rw [if_pos (by rw [List.length_map]; omega)]
      simp only [bSeq, bRet, bAsg, bPar, bPar3, bTup4, gStore, bIfS, bNext, bDrop, bVar, bC, bOp, bUn, bII, bIC, bIB, asInts, asInt, asBool, asStrs, asStr, asView, vw, bCons, bNil, bTup, bLst, bFz, Ow.dat, bCB, one1, b1Len, lenD, b1List, b1Tuple, itemsOf, itemsL, itemsT, b1Int, b1Abs, b1Str, bIsi, bB, bAnd, bOr, bNot, bAndV, bOrV, bNotV, bChain, bIf, bIx, bMt, isL, mOwn, asDatas, datas, Option.map_some, fAppend, fPop, fPopAt, fRemove, mIndex, bCatL, ownL, bCatT, bRepL, bInI, bRevL, bRevT, bSl, oNone, oSome, bLstRg1, bTupRg1, bDown, bCall, callW, plainB, bCallK, List.getElem?_cons_zero, List.getElem?_cons_succ, List.set_cons_zero, List.set_cons_succ, endsF, intsD_map, b1Sorted, biTup, biSeq, biR1, biR2, b1Repr, isRefD, bAsI, bAsB, bAsD, bAsO, bNeE, atI_0, atI_1, dk, gTupB, gTups, bRaise, bDkS, bDkD, bDkP, bDkA, bDkPut, bDkNew, bDkCat]
      refine ⟨⟨by omega, ?_⟩, .fz (.int ((i : Int) + 1)), ?_⟩
      · have := log_small (i + 1) (by omega)
        simpa using this
      · rw [dg_succ]
        unfold stD
        simp
    · rintro e ⟨s3, rfl⟩
      rw [range_len]
      simp only [bSeq, bRet, bAsg, bPar, bPar3, bTup4, gStore, bIfS, bNext, bDrop, bVar, bC, bOp, bUn, bII, bIC, bIB, asInts, asInt, asBool, asStrs, asStr, asView, vw, bCons, bNil, bTup, bLst, bFz, Ow.dat, bCB, one1, b1Len, lenD, b1List, b1Tuple, itemsOf, itemsL, itemsT, b1Int, b1Abs, b1Str, bIsi, bB, bAnd, bOr, bNot, bAndV, bOrV, bNotV, bChain, bIf, bIx, bMt, isL, mOwn, asDatas, datas, Option.map_some, fAppend, fPop, fPopAt, fRemove, mIndex, bCatL, ownL, bCatT, bRepL, bInI, bRevL, bRevT, bSl, oNone, oSome, bLstRg1, bTupRg1, bDown, bCall, callW, plainB, bCallK, List.getElem?_cons_zero, List.getElem?_cons_succ, List.set_cons_zero, List.set_cons_succ, endsF, intsD_map, b1Sorted, biTup, biSeq, biR1, biR2, b1Repr, isRefD, bAsI, bAsB, bAsD, bAsO, bNeE, atI_0, atI_1, dk, gTupB, gTups, bRaise, bDkS, bDkD, bDkP, bDkA, bDkPut, bDkNew, bDkCat]
      unfold bLc
      simp only [dName, bYes, wipeE, List.map_cons, List.map_nil]
      simp only [bSeq, bRet, bAsg, bPar, bPar3, bTup4, gStore, bIfS, bNext, bDrop, bVar, bC, bOp, bUn, bII, bIC, bIB, asInts, asInt, asBool, asStrs, asStr, asView, vw, bCons, bNil, bTup, bLst, bFz, Ow.dat, bCB, one1, b1Len, lenD, b1List, b1Tuple, itemsOf, itemsL, itemsT, b1Int, b1Abs, b1Str, bIsi, bB, bAnd, bOr, bNot, bAndV, bOrV, bNotV, bChain, bIf, bIx, bMt, isL, mOwn, asDatas, datas, Option.map_some, fAppend, fPop, fPopAt, fRemove, mIndex, bCatL, ownL, bCatT, bRepL, bInI, bRevL, bRevT, bSl, oNone, oSome, bLstRg1, bTupRg1, bDown, bCall, callW, plainB, bCallK, List.getElem?_cons_zero, List.getElem?_cons_succ, List.set_cons_zero, List.set_cons_succ, endsF, intsD_map, b1Sorted, biTup, biSeq, biR1, biR2, b1Repr, isRefD, bAsI, bAsB, bAsD, bAsO, bNeE, atI_0, atI_1, dk, gTupB, gTups, bRaise, bDkS, bDkD, bDkP, bDkA, bDkPut, bDkNew, bDkCat]
      have em : ((m : Nat) : Int).toNat = m := by omega
      rw [em, rangeD_rgI]
      refine ⟨⟨by omega, by omega, by omega, by omega⟩, fun k acc e => ∃ L G, ((dg m x).1.reverse.take k).foldl stU (rgI m, []) = (L, G) ∧ acc = G.map PyData.int ∧ e = [.fz (.int m), .fz (.int (dg m x).2), .ow (.lst ((dg m x).1.map PyData.int)), s3, .ow (.lst (L.map PyData.int)), .un] ∧ L.length = m - k ∧ G.length = k ∧ k ≤ m, ⟨_, _, rfl, rfl, rfl, by rw [rgI_len]; rfl, rfl, Nat.zero_le _⟩, ?_, ?_⟩
      · rintro k d acc e hk ⟨L, G, hf, rfl, rfl, hL, hG, hkm⟩
        rw [← List.map_reverse] at hk
        obtain ⟨t, ht, rfl⟩ := get_ints hk
        have hk2 := (List.getElem?_eq_some_iff.mp ht).1
        rw [List.length_reverse, dg_len] at hk2
        have ht2 := ht
        rw [List.getElem?_reverse (by rw [dg_len]; exact hk2), dg_len] at ht2
        obtain ⟨t0, t1⟩ := dg_ok m x _ t ht2
        obtain ⟨j, rfl⟩ := Int.eq_ofNat_of_zero_le t0
        have hj : j < L.length := by omega
        simp only [bSeq, bRet, bAsg, bPar, bPar3, bTup4, gStore, bIfS, bNext, bDrop, bVar, bC, bOp, bUn, bII, bIC, bIB, asInts, asInt, asBool, asStrs, asStr, asView, vw, bCons, bNil, bTup, bLst, bFz, Ow.dat, bCB, one1, b1Len, lenD, b1List, b1Tuple, itemsOf, itemsL, itemsT, b1Int, b1Abs, b1Str, bIsi, bB, bAnd, bOr, bNot, bAndV, bOrV, bNotV, bChain, bIf, bIx, bMt, isL, mOwn, asDatas, datas, Option.map_some, fAppend, fPop, fPopAt, fRemove, mIndex, bCatL, ownL, bCatT, bRepL, bInI, bRevL, bRevT, bSl, oNone, oSome, bLstRg1, bTupRg1, bDown, bCall, callW, plainB, bCallK, List.getElem?_cons_zero, List.getElem?_cons_succ, List.set_cons_zero, List.set_cons_succ, endsF, intsD_map, b1Sorted, biTup, biSeq, biR1, biR2, b1Repr, isRefD, bAsI, bAsB, bAsD, bAsO, bNeE, atI_0, atI_1, dk, gTupB, gTups, bRaise, bDkS, bDkD, bDkP, bDkA, bDkPut, bDkNew, bDkCat]
        rw [List.length_map, if_pos trivial, if_pos (by omega), ixN_nat hj]
        simp only [bSeq, bRet, bAsg, bPar, bPar3, bTup4, gStore, bIfS, bNext, bDrop, bVar, bC, bOp, bUn, bII, bIC, bIB, asInts, asInt, asBool, asStrs, asStr, asView, vw, bCons, bNil, bTup, bLst, bFz, Ow.dat, bCB, one1, b1Len, lenD, b1List, b1Tuple, itemsOf, itemsL, itemsT, b1Int, b1Abs, b1Str, bIsi, bB, bAnd, bOr, bNot, bAndV, bOrV, bNotV, bChain, bIf, bIx, bMt, isL, mOwn, asDatas, datas, Option.map_some, fAppend, fPop, fPopAt, fRemove, mIndex, bCatL, ownL, bCatT, bRepL, bInI, bRevL, bRevT, bSl, oNone, oSome, bLstRg1, bTupRg1, bDown, bCall, callW, plainB, bCallK, List.getElem?_cons_zero, List.getElem?_cons_succ, List.set_cons_zero, List.set_cons_succ, endsF, intsD_map, b1Sorted, biTup, biSeq, biR1, biR2, b1Repr, isRefD, bAsI, bAsB, bAsD, bAsO, bNeE, atI_0, atI_1, dk, gTupB, gTups, bRaise, bDkS, bDkD, bDkP, bDkA, bDkPut, bDkNew, bDkCat]
        rw [List.getElem?_map, List.getElem?_eq_getElem hj]
        refine ⟨rfl, ?_⟩
        simp only [bSeq, bRet, bAsg, bPar, bPar3, bTup4, gStore, bIfS, bNext, bDrop, bVar, bC, bOp, bUn, bII, bIC, bIB, asInts, asInt, asBool, asStrs, asStr, asView, vw, bCons, bNil, bTup, bLst, bFz, Ow.dat, bCB, one1, b1Len, lenD, b1List, b1Tuple, itemsOf, itemsL, itemsT, b1Int, b1Abs, b1Str, bIsi, bB, bAnd, bOr, bNot, bAndV, bOrV, bNotV, bChain, bIf, bIx, bMt, isL, mOwn, asDatas, datas, Option.map_some, fAppend, fPop, fPopAt, fRemove, mIndex, bCatL, ownL, bCatT, bRepL, bInI, bRevL, bRevT, bSl, oNone, oSome, bLstRg1, bTupRg1, bDown, bCall, callW, plainB, bCallK, List.getElem?_cons_zero, List.getElem?_cons_succ, List.set_cons_zero, List.set_cons_succ, endsF, intsD_map, b1Sorted, biTup, biSeq, biR1, biR2, b1Repr, isRefD, bAsI, bAsB, bAsD, bAsO, bNeE, atI_0, atI_1, dk, gTupB, gTups, bRaise, bDkS, bDkD, bDkP, bDkA, bDkPut, bDkNew, bDkCat]
        refine ⟨by rw [List.length_map]; omega, L.eraseIdx j, G ++ [L[j]], ?_, by simp, by rw [erase_map], by rw [List.length_eraseIdx_of_lt hj]; omega, by simp [hG], by omega⟩
        rw [take_nx ht, List.foldl_append, hf]
        show stU (L, G) (j : Int) = _
        unfold stU
        rw [Int.toNat_natCast, List.getD_eq_getElem?_getD, List.getElem?_eq_getElem hj]
        rfl
      · rintro acc e ⟨L, G, hf, rfl, rfl, hL, hG, hkm⟩
        rw [List.length_reverse, List.length_map, dg_len] at hf hL hG
        have e7 : (dg m x).1.reverse.take m = (dg m x).1.reverse := List.take_of_length_le (by rw [List.length_reverse, dg_len]; exact Nat.le_refl _)
        rw [e7] at hf
        have e8 : unr m x = G := by
          unfold unr
          rw [hf]
        rw [e8] at h
        simp only [bSeq, bRet, bAsg, bPar, bPar3, bTup4, gStore, bIfS, bNext, bDrop, bVar, bC, bOp, bUn, bII, bIC, bIB, asInts, asInt, asBool, asStrs, asStr, asView, vw, bCons, bNil, bTup, bLst, bFz, Ow.dat, bCB, one1, b1Len, lenD, b1List, b1Tuple, itemsOf, itemsL, itemsT, b1Int, b1Abs, b1Str, bIsi, bB, bAnd, bOr, bNot, bAndV, bOrV, bNotV, bChain, bIf, bIx, bMt, isL, mOwn, asDatas, datas, Option.map_some, fAppend, fPop, fPopAt, fRemove, mIndex, bCatL, ownL, bCatT, bRepL, bInI, bRevL, bRevT, bSl, oNone, oSome, bLstRg1, bTupRg1, bDown, bCall, callW, plainB, bCallK, List.getElem?_cons_zero, List.getElem?_cons_succ, List.set_cons_zero, List.set_cons_succ, endsF, intsD_map, b1Sorted, biTup, biSeq, biR1, biR2, b1Repr, isRefD, bAsI, bAsB, bAsD, bAsO, bNeE, atI_0, atI_1, dk, gTupB, gTups, bRaise, bDkS, bDkD, bDkP, bDkA, bDkPut, bDkNew, bDkCat]
        exact ⟨by show 2 ≤ sizeLine; omega, h⟩
abbrev st__law_standing : Stmt := top 17
abbrev N__law_standing : List Str := ["n", "number", "many", "rest", "digits", "found", "left"]
theorem sc__law_standing : FnScope N__law_standing ["n", "number"] (defScope st__law_standing) := ⟨rfl, rfl, rfl, by decide +kernel, rfl, by decide +kernel, by decide +kernel⟩
theorem cons_snoc {α : Type} : ∀ {l : List α}, 0 < l.length → ∃ m a, l = m ++ [a]
  | [], h => by simp at h
  | x :: xs, _ => by
    cases e : (x :: xs).reverse with
    | nil => simp at e
    | cons a r => exact ⟨r.reverse, a, by rw [← List.reverse_reverse (x :: xs), e, List.reverse_cons]⟩
def ph__law_standing : Ph := fun args Q => ∃ (n : Nat) (x : Int), args = [.fz (.int n), .fz (.int x)] ∧ 1 ≤ n ∧ n ≤ 50 ∧ ∀ ns : List Int, ns.Perm (rgI (n + 1)) → Q (.fz (.tuple [.tuple (ns.map PyData.int), .int (x % n)])) [.un, .un]
theorem ok__law_standing (T : Txt mg) (F : Fun K "_law_standing" "_law_standing" st__law_standing f fd) : FnG P w K mg base CX0 1 f fd ["n", "number"] (spB K 2 ph__law_standing) :=
  fg_ok (pins := []) F sc__law_standing rfl (by decide) (fun args Q ⟨m, x, e, _⟩ => by subst e; rfl) fun cdv A outer s H E hgd hr args Q hl h => by
    obtain ⟨n, x, rfl, h1, hn, h⟩ := h
    refine ⟨_, (bss_cons (bs_tup4 3 4 5 6 rfl sc__law_standing.nd (ba_cons (be_fdivW (bv 1) (bv 0)) (ba_cons (be_lst ba_nil) (ba_cons (be_lst ba_nil) (ba_cons (be_listRg1 rfl rfl T.n_list rfl T.n_range (be_add (bv 0) be_int)) ba_nil)))))
      (bss_cons (bs_for PassesOwn.never rfl (bi_range2 rfl T.n_range (ba_cons be_int (ba_cons (be_add (bv 0) be_int) ba_nil))) (bg_name 2 sc__law_standing.nd) (bss_cons (bs_expr (be_append (bv 4) (ba_cons (be_mod (be_ct cq_int rfl T.n_int PyProof.Rows.boot_int (ba_cons (bv 3) ba_nil)) (bv 2)) ba_nil)))
      (bss_one (bs_set 3 sc__law_standing.nd (be_fdivW (bv 3) (bv 2))))))
      (bss_cons (bs_while PassesOwn.never (bt_cmp (cr_neE (hu_of hr)) (bv 4) (be_lst ba_nil)) (bss_one (bs_expr (be_append (bv 5) (ba_cons (be_popAt (bv 6) (ba_cons (be_pop (bv 4)) ba_nil)) ba_nil)))))
      (bss_one (bs_ret (be_tup (ba_cons (be_ct cq_tuple rfl T.n_tuple PyProof.Rows.boot_tuple (ba_cons (bv 5) ba_nil)) (ba_cons (be_mod (be_ct cq_int rfl T.n_int PyProof.Rows.boot_int (ba_cons (bv 1) ba_nil)) (bv 0)) ba_nil)))))))), ?_⟩
    refine atEnv [.fz (.int n), .fz (.int x), .un, .un, .un, .un, .un] rfl ?_
    have hb := line_big
    have ek : ((n : Int) + 1).toNat = n + 1 := by omega
    have ek2 : ((n : Int) + 2 - 1).toNat = n + 1 := by omega
    have hlg := log_small n (by omega)
    simp only [bSeq, bRet, bAsg, bPar, bPar3, bTup4, gStore, bIfS, bNext, bDrop, bVar, bC, bOp, bUn, bII, bIC, bIB, asInts, asInt, asBool, asStrs, asStr, asView, vw, bCons, bNil, bTup, bLst, bFz, Ow.dat, bCB, one1, b1Len, lenD, b1List, b1Tuple, itemsOf, itemsL, itemsT, b1Int, b1Abs, b1Str, bIsi, bB, bAnd, bOr, bNot, bAndV, bOrV, bNotV, bChain, bIf, bIx, bMt, isL, mOwn, asDatas, datas, Option.map_some, fAppend, fPop, fPopAt, fRemove, mIndex, bCatL, ownL, bCatT, bRepL, bInI, bRevL, bRevT, bSl, oNone, oSome, bLstRg1, bTupRg1, bDown, bCall, callW, plainB, bCallK, List.getElem?_cons_zero, List.getElem?_cons_succ, List.set_cons_zero, List.set_cons_succ, endsF, intsD_map, b1Sorted, biTup, biSeq, biR1, biR2, b1Repr, isRefD, bAsI, bAsB, bAsD, bAsO, bNeE, atI_0, atI_1, dk, gTupB, gTups, bRaise, bDkS, bDkD, bDkP, bDkA, bDkPut, bDkNew, bDkCat]
    unfold bFor
    simp only [bSeq, bRet, bAsg, bPar, bPar3, bTup4, gStore, bIfS, bNext, bDrop, bVar, bC, bOp, bUn, bII, bIC, bIB, asInts, asInt, asBool, asStrs, asStr, asView, vw, bCons, bNil, bTup, bLst, bFz, Ow.dat, bCB, one1, b1Len, lenD, b1List, b1Tuple, itemsOf, itemsL, itemsT, b1Int, b1Abs, b1Str, bIsi, bB, bAnd, bOr, bNot, bAndV, bOrV, bNotV, bChain, bIf, bIx, bMt, isL, mOwn, asDatas, datas, Option.map_some, fAppend, fPop, fPopAt, fRemove, mIndex, bCatL, ownL, bCatT, bRepL, bInI, bRevL, bRevT, bSl, oNone, oSome, bLstRg1, bTupRg1, bDown, bCall, callW, plainB, bCallK, List.getElem?_cons_zero, List.getElem?_cons_succ, List.set_cons_zero, List.set_cons_succ, endsF, intsD_map, b1Sorted, biTup, biSeq, biR1, biR2, b1Repr, isRefD, bAsI, bAsB, bAsD, bAsO, bNeE, atI_0, atI_1, dk, gTupB, gTups, bRaise, bDkS, bDkD, bDkP, bDkA, bDkPut, bDkNew, bDkCat]
    rw [ek, ek2, rangeD_rgI]
    refine ⟨⟨by omega, hlg⟩, Nat.zero_le _, Nat.zero_le _, ⟨by omega, by omega, by omega, by omega⟩, ⟨trivial, trivial, trivial⟩, ⟨by omega, by omega, by omega, by omega⟩, ?_⟩
    refine ⟨fun i e => ∃ s2, e = [.fz (.int n), .fz (.int x), s2, .fz (.int (dg i (x / n)).2), .ow (.lst ((dg i (x / n)).1.map PyData.int)), .ow (.lst []), .ow (.lst ((rgI (n + 1)).map PyData.int))], ⟨.un, rfl⟩, ?_, ?_⟩
    · rintro i d e hi ⟨s2, rfl⟩
      obtain ⟨h3, rfl⟩ := range_get hi
      have e1 : (1 : Int) + (i : Int) = (i : Int) + 1 := by omega
      have hdl := dg_len i (x / n)
      rw [e1]
      simp only [bSeq, bRet, bAsg, bPar, bPar3, bTup4, gStore, bIfS, bNext, bDrop, bVar, bC, bOp, bUn, bII, bIC, bIB, asInts, asInt, asBool, asStrs, asStr, asView, vw, bCons, bNil, bTup, bLst, bFz, Ow.dat, bCB, one1, b1Len, lenD, b1List, b1Tuple, itemsOf, itemsL, itemsT, b1Int, b1Abs, b1Str, bIsi, bB, bAnd, bOr, bNot, bAndV, bOrV, bNotV, bChain, bIf, bIx, bMt, isL, mOwn, asDatas, datas, Option.map_some, fAppend, fPop, fPopAt, fRemove, mIndex, bCatL, ownL, bCatT, bRepL, bInI, bRevL, bRevT, bSl, oNone, oSome, bLstRg1, bTupRg1, bDown, bCall, callW, plainB, bCallK, List.getElem?_cons_zero, List.getElem?_cons_succ, List.set_cons_zero, List.set_cons_succ, endsF, intsD_map, b1Sorted, biTup, biSeq, biR1, biR2, b1Repr, isRefD, bAsI, bAsB, bAsD, bAsO, bNeE, atI_0, atI_1, dk, gTupB, gTups, bRaise, bDkS, bDkD, bDkP, bDkA, bDkPut, bDkNew, bDkCat]
      refine ⟨rfl, by omega, ?_⟩
      rw [if_pos (by rw [List.length_map]; omega)]
      simp only [bSeq, bRet, bAsg, bPar, bPar3, bTup4, gStore, bIfS, bNext, bDrop, bVar, bC, bOp, bUn, bII, bIC, bIB, asInts, asInt, asBool, asStrs, asStr, asView, vw, bCons, bNil, bTup, bLst, bFz, Ow.dat, bCB, one1, b1Len, lenD, b1List, b1Tuple, itemsOf, itemsL, itemsT, b1Int, b1Abs, b1Str, bIsi, bB, bAnd, bOr, bNot, bAndV, bOrV, bNotV, bChain, bIf, bIx, bMt, isL, mOwn, asDatas, datas, Option.map_some, fAppend, fPop, fPopAt, fRemove, mIndex, bCatL, ownL, bCatT, bRepL, bInI, bRevL, bRevT, bSl, oNone, oSome, bLstRg1, bTupRg1, bDown, bCall, callW, plainB, bCallK, List.getElem?_cons_zero, List.getElem?_cons_succ, List.set_cons_zero, List.set_cons_succ, endsF, intsD_map, b1Sorted, biTup, biSeq, biR1, biR2, b1Repr, isRefD, bAsI, bAsB, bAsD, bAsO, bNeE, atI_0, atI_1, dk, gTupB, gTups, bRaise, bDkS, bDkD, bDkP, bDkA, bDkPut, bDkNew, bDkCat]
      refine ⟨⟨by omega, ?_⟩, .fz (.int ((i : Int) + 1)), ?_⟩
      · have := log_small (i + 1) (by omega)
        simpa using this
      · rw [dg_succ]
        unfold stD
        simp
    · rintro e ⟨s2, rfl⟩
      rw [range_len]
      unfold bWhile
      simp only [bSeq, bRet, bAsg, bPar, bPar3, bTup4, gStore, bIfS, bNext, bDrop, bVar, bC, bOp, bUn, bII, bIC, bIB, asInts, asInt, asBool, asStrs, asStr, asView, vw, bCons, bNil, bTup, bLst, bFz, Ow.dat, bCB, one1, b1Len, lenD, b1List, b1Tuple, itemsOf, itemsL, itemsT, b1Int, b1Abs, b1Str, bIsi, bB, bAnd, bOr, bNot, bAndV, bOrV, bNotV, bChain, bIf, bIx, bMt, isL, mOwn, asDatas, datas, Option.map_some, fAppend, fPop, fPopAt, fRemove, mIndex, bCatL, ownL, bCatT, bRepL, bInI, bRevL, bRevT, bSl, oNone, oSome, bLstRg1, bTupRg1, bDown, bCall, callW, plainB, bCallK, List.getElem?_cons_zero, List.getElem?_cons_succ, List.set_cons_zero, List.set_cons_succ, endsF, intsD_map, b1Sorted, biTup, biSeq, biR1, biR2, b1Repr, isRefD, bAsI, bAsB, bAsD, bAsO, bNeE, atI_0, atI_1, dk, gTupB, gTups, bRaise, bDkS, bDkD, bDkP, bDkA, bDkPut, bDkNew, bDkCat]
      refine ⟨fun k e => ∃ (D done L G : List Int) (s2 : Sl), D.length = k ∧ (dg (n + 1) (x / n)).1 = D ++ done ∧ e = [.fz (.int n), .fz (.int x), s2, .fz (.int (dg (n + 1) (x / n)).2), .ow (.lst (D.map PyData.int)), .ow (.lst (G.map PyData.int)), .ow (.lst (L.map PyData.int))] ∧ (G ++ L).Perm (rgI (n + 1)) ∧ L.length = D.length, ⟨n + 1, (dg (n + 1) (x / n)).1, [], rgI (n + 1), [], s2, dg_len _ _, by simp, rfl, by simp, by rw [rgI_len, dg_len]⟩, ?_⟩
      rintro k e ⟨D, done, L, G, s2, rfl, hdd, rfl, hp, hL⟩
      have hpl := hp.length_eq
      rw [List.length_append, rgI_len] at hpl
      simp only [bSeq, bRet, bAsg, bPar, bPar3, bTup4, gStore, bIfS, bNext, bDrop, bVar, bC, bOp, bUn, bII, bIC, bIB, asInts, asInt, asBool, asStrs, asStr, asView, vw, bCons, bNil, bTup, bLst, bFz, Ow.dat, bCB, one1, b1Len, lenD, b1List, b1Tuple, itemsOf, itemsL, itemsT, b1Int, b1Abs, b1Str, bIsi, bB, bAnd, bOr, bNot, bAndV, bOrV, bNotV, bChain, bIf, bIx, bMt, isL, mOwn, asDatas, datas, Option.map_some, fAppend, fPop, fPopAt, fRemove, mIndex, bCatL, ownL, bCatT, bRepL, bInI, bRevL, bRevT, bSl, oNone, oSome, bLstRg1, bTupRg1, bDown, bCall, callW, plainB, bCallK, List.getElem?_cons_zero, List.getElem?_cons_succ, List.set_cons_zero, List.set_cons_succ, endsF, intsD_map, b1Sorted, biTup, biSeq, biR1, biR2, b1Repr, isRefD, bAsI, bAsB, bAsD, bAsO, bNeE, atI_0, atI_1, dk, gTupB, gTups, bRaise, bDkS, bDkD, bDkP, bDkA, bDkPut, bDkNew, bDkCat]
      refine ⟨Nat.zero_le _, trivial, ifB (fun h4 => ?_) (fun h4 => ?_)⟩
      · have hpos : 0 < D.length := by
          cases D with
          | nil => cases h4
          | cons a l => simp
        obtain ⟨D', t, rfl⟩ := cons_snoc hpos
        have hdd2 : (dg (n + 1) (x / n)).1[D'.length]? = some t := by
          rw [hdd, List.append_assoc, List.getElem?_append_right (Nat.le_refl _)]
          simp
        obtain ⟨t0, t1⟩ := dg_ok (n + 1) (x / n) _ t hdd2
        obtain ⟨j, rfl⟩ := Int.eq_ofNat_of_zero_le t0
        have hDl : (D' ++ [(j : Int)]).length = D'.length + 1 := by simp
        have hj : j < L.length := by omega
        have e9 : ((D' ++ [(j : Int)]).map PyData.int)[((D' ++ [(j : Int)]).map PyData.int).length - 1]? = some (.int j) := by simp
        have e10 : ((D' ++ [(j : Int)]).map PyData.int).dropLast = D'.map PyData.int := by simp
        rw [e9, e10]
        simp only [bSeq, bRet, bAsg, bPar, bPar3, bTup4, gStore, bIfS, bNext, bDrop, bVar, bC, bOp, bUn, bII, bIC, bIB, asInts, asInt, asBool, asStrs, asStr, asView, vw, bCons, bNil, bTup, bLst, bFz, Ow.dat, bCB, one1, b1Len, lenD, b1List, b1Tuple, itemsOf, itemsL, itemsT, b1Int, b1Abs, b1Str, bIsi, bB, bAnd, bOr, bNot, bAndV, bOrV, bNotV, bChain, bIf, bIx, bMt, isL, mOwn, asDatas, datas, Option.map_some, fAppend, fPop, fPopAt, fRemove, mIndex, bCatL, ownL, bCatT, bRepL, bInI, bRevL, bRevT, bSl, oNone, oSome, bLstRg1, bTupRg1, bDown, bCall, callW, plainB, bCallK, List.getElem?_cons_zero, List.getElem?_cons_succ, List.set_cons_zero, List.set_cons_succ, endsF, intsD_map, b1Sorted, biTup, biSeq, biR1, biR2, b1Repr, isRefD, bAsI, bAsB, bAsD, bAsO, bNeE, atI_0, atI_1, dk, gTupB, gTups, bRaise, bDkS, bDkD, bDkP, bDkA, bDkPut, bDkNew, bDkCat]
        rw [List.length_map, if_pos (by omega), ixN_nat hj]
        simp only [bSeq, bRet, bAsg, bPar, bPar3, bTup4, gStore, bIfS, bNext, bDrop, bVar, bC, bOp, bUn, bII, bIC, bIB, asInts, asInt, asBool, asStrs, asStr, asView, vw, bCons, bNil, bTup, bLst, bFz, Ow.dat, bCB, one1, b1Len, lenD, b1List, b1Tuple, itemsOf, itemsL, itemsT, b1Int, b1Abs, b1Str, bIsi, bB, bAnd, bOr, bNot, bAndV, bOrV, bNotV, bChain, bIf, bIx, bMt, isL, mOwn, asDatas, datas, Option.map_some, fAppend, fPop, fPopAt, fRemove, mIndex, bCatL, ownL, bCatT, bRepL, bInI, bRevL, bRevT, bSl, oNone, oSome, bLstRg1, bTupRg1, bDown, bCall, callW, plainB, bCallK, List.getElem?_cons_zero, List.getElem?_cons_succ, List.set_cons_zero, List.set_cons_succ, endsF, intsD_map, b1Sorted, biTup, biSeq, biR1, biR2, b1Repr, isRefD, bAsI, bAsB, bAsD, bAsO, bNeE, atI_0, atI_1, dk, gTupB, gTups, bRaise, bDkS, bDkD, bDkP, bDkA, bDkPut, bDkNew, bDkCat]
        rw [List.getElem?_map, List.getElem?_eq_getElem hj]
        refine ⟨rfl, rfl, rfl, ?_⟩
        simp only [bSeq, bRet, bAsg, bPar, bPar3, bTup4, gStore, bIfS, bNext, bDrop, bVar, bC, bOp, bUn, bII, bIC, bIB, asInts, asInt, asBool, asStrs, asStr, asView, vw, bCons, bNil, bTup, bLst, bFz, Ow.dat, bCB, one1, b1Len, lenD, b1List, b1Tuple, itemsOf, itemsL, itemsT, b1Int, b1Abs, b1Str, bIsi, bB, bAnd, bOr, bNot, bAndV, bOrV, bNotV, bChain, bIf, bIx, bMt, isL, mOwn, asDatas, datas, Option.map_some, fAppend, fPop, fPopAt, fRemove, mIndex, bCatL, ownL, bCatT, bRepL, bInI, bRevL, bRevT, bSl, oNone, oSome, bLstRg1, bTupRg1, bDown, bCall, callW, plainB, bCallK, List.getElem?_cons_zero, List.getElem?_cons_succ, List.set_cons_zero, List.set_cons_succ, endsF, intsD_map, b1Sorted, biTup, biSeq, biR1, biR2, b1Repr, isRefD, bAsI, bAsB, bAsD, bAsO, bNeE, atI_0, atI_1, dk, gTupB, gTups, bRaise, bDkS, bDkD, bDkP, bDkA, bDkPut, bDkNew, bDkCat]
        rw [if_pos (by rw [List.length_map]; omega)]
        simp only [bSeq, bRet, bAsg, bPar, bPar3, bTup4, gStore, bIfS, bNext, bDrop, bVar, bC, bOp, bUn, bII, bIC, bIB, asInts, asInt, asBool, asStrs, asStr, asView, vw, bCons, bNil, bTup, bLst, bFz, Ow.dat, bCB, one1, b1Len, lenD, b1List, b1Tuple, itemsOf, itemsL, itemsT, b1Int, b1Abs, b1Str, bIsi, bB, bAnd, bOr, bNot, bAndV, bOrV, bNotV, bChain, bIf, bIx, bMt, isL, mOwn, asDatas, datas, Option.map_some, fAppend, fPop, fPopAt, fRemove, mIndex, bCatL, ownL, bCatT, bRepL, bInI, bRevL, bRevT, bSl, oNone, oSome, bLstRg1, bTupRg1, bDown, bCall, callW, plainB, bCallK, List.getElem?_cons_zero, List.getElem?_cons_succ, List.set_cons_zero, List.set_cons_succ, endsF, intsD_map, b1Sorted, biTup, biSeq, biR1, biR2, b1Repr, isRefD, bAsI, bAsB, bAsD, bAsO, bNeE, atI_0, atI_1, dk, gTupB, gTups, bRaise, bDkS, bDkD, bDkP, bDkA, bDkPut, bDkNew, bDkCat]
        refine ⟨D'.length, by omega, D', (j : Int) :: done, L.eraseIdx j, G ++ [L[j]], s2, rfl, by rw [hdd]; simp, by rw [erase_map]; simp, ?_, by rw [List.length_eraseIdx_of_lt hj]; omega⟩
        refine List.Perm.trans ?_ hp
        rw [List.append_assoc]
        exact List.Perm.append_left G (erase_perm L j hj)
      · have hD0 : D = [] := by
          cases D with
          | nil => rfl
          | cons a l => cases h4
        subst hD0
        have hL0 : L = [] := List.eq_nil_of_length_eq_zero hL
        subst hL0
        rw [List.append_nil] at hp
        exact ⟨by omega, by show 2 ≤ sizeLine; omega, h G hp⟩
end
end K4

set_option maxHeartbeats 400000
/-! k04, part d: numbers there and back; what is refused. -/
namespace K4
open PySem L2 BV
theorem idxI_lt {l : List Int} {t : Int} {j : Nat} (h : idxI l t = some j) : l[j]? = some t := (idxI_some h).1
theorem there_back : ∀ (ns left : List Int) (found : Int) (acc : List Int), ns.Perm left → ∃ D, dg left.length ((ns.foldl stp (left, found)).2) = (D, found) ∧ (D.reverse.foldl stU (left, acc)).2 = acc ++ ns
  | [], left, found, acc, h => by
    have e : left = [] := List.nil_perm.mp h
    subst e
    exact ⟨[], rfl, by simp⟩
  | t :: rest, left, found, acc, h => by
    obtain ⟨j, e1, e2, e3⟩ := idx_perm h.symm
    have hget := idxI_lt e1
    have hlen : left.length = (left.eraseIdx j).length + 1 := by
      rw [List.length_eraseIdx_of_lt e2]
      omega
    obtain ⟨D, d1, d2⟩ := there_back rest (left.eraseIdx j) (found * (left.length : Int) + (j : Int)) (acc ++ [t]) e3.symm
    have es : (t :: rest).foldl stp (left, found) = rest.foldl stp (left.eraseIdx j, found * (left.length : Int) + (j : Int)) := by
      show rest.foldl stp (stp (left, found) t) = _
      unfold stp
      rw [e1]
      rfl
    refine ⟨D ++ [(j : Int)], ?_, ?_⟩
    · rw [es]
      have hl2 : left.length = (left.eraseIdx j).length + 1 := hlen
      rw [show dg left.length ((rest.foldl stp (left.eraseIdx j, found * (left.length : Int) + (j : Int))).2) = dg ((left.eraseIdx j).length + 1) ((rest.foldl stp (left.eraseIdx j, found * (left.length : Int) + (j : Int))).2) by rw [← hl2], dg_succ, d1]
      unfold stD
      have c1 : (((left.eraseIdx j).length : Nat) : Int) + 1 = (left.length : Int) := by omega
      have hpos : (0 : Int) < (left.length : Int) := by omega
      have c2 : (found * (left.length : Int) + (j : Int)) % (left.length : Int) = (j : Int) := by
        rw [Int.add_comm, Int.add_mul_emod_self_right]
        exact Int.emod_eq_of_lt (by omega) (by omega)
      have c3 : (found * (left.length : Int) + (j : Int)) / (left.length : Int) = found := by
        rw [Int.add_comm, Int.add_mul_ediv_right _ _ (by omega), Int.ediv_eq_zero_of_lt (by omega) (by omega)]
        omega
      simp only [c1, c2, c3]
    · rw [List.reverse_append, List.reverse_singleton, List.singleton_append, List.foldl_cons]
      have c4 : stU (left, acc) (j : Int) = (left.eraseIdx j, acc ++ [t]) := by
        unfold stU
        rw [Int.toNat_natCast, List.getD_eq_getElem?_getD, hget]
        rfl
      rw [c4, d2, List.append_assoc]
      rfl
theorem dg_rest : ∀ (m : Nat) (x : Int), (dg m x).2 = x / fac m
  | 0, x => by
    show x = x / 1
    rw [Int.ediv_one]
  | m + 1, x => by
    rw [dg_succ]
    show (dg m x).2 / ((m : Int) + 1) = x / (fac m * ((m : Int) + 1))
    rw [dg_rest m x, Int.ediv_ediv_of_nonneg (Int.le_of_lt (fac_pos m))]
theorem rank_nonneg : ∀ (ns left : List Int) (found : Int), 0 ≤ found → 0 ≤ (ns.foldl stp (left, found)).2
  | [], left, found, h => h
  | t :: rest, left, found, h => by
    show 0 ≤ (rest.foldl stp (stp (left, found) t)).2
    unfold stp
    refine rank_nonneg rest _ _ ?_
    have : 0 ≤ found * (left.length : Int) := Int.mul_nonneg h (by omega)
    show 0 ≤ found * (left.length : Int) + (((idxI left t).getD 0 : Nat) : Int)
    omega
/-- a row is told back by its number -/
theorem row_back {ns : List Int} {m : Nat} (h : ns.Perm (rgI m)) : unr m (rank (rgI m) ns) = ns ∧ (dg m (rank (rgI m) ns)).2 = 0 ∧ 0 ≤ rank (rgI m) ns ∧ rank (rgI m) ns < fac m := by
  obtain ⟨D, d1, d2⟩ := there_back ns (rgI m) 0 [] h
  have d1' : dg m (rank (rgI m) ns) = (D, 0) := by
    have := d1
    rw [rgI_len] at this
    exact this
  have h0 : 0 ≤ rank (rgI m) ns := rank_nonneg ns (rgI m) 0 (Int.le_refl 0)
  have hr := dg_rest m (rank (rgI m) ns)
  rw [d1'] at hr
  refine ⟨?_, by rw [d1'], h0, ?_⟩
  · unfold unr
    rw [d1', d2]
    rfl
  · have hp := fac_pos m
    have h3 : rank (rgI m) ns / fac m = 0 := hr.symm
    rcases Int.lt_or_le (rank (rgI m) ns) (fac m) with h4 | h4
    · exact h4
    · have h5 := Int.le_ediv_of_mul_le hp (show 1 * fac m ≤ rank (rgI m) ns by omega)
      omega
/-- numbers that are too great -/
theorem too_great {n : Nat} {v : Int} (hn : 1 ≤ n) (h : (n : Int) * fac (n + 1) ≤ v) : 0 < (dg (n + 1) (v / n)).2 := by
  rw [dg_rest]
  have hp := fac_pos (n + 1)
  have h1 : fac (n + 1) ≤ v / (n : Int) := Int.le_ediv_of_mul_le (by omega) (by rw [Int.mul_comm]; exact h)
  have h2 := Int.le_ediv_of_mul_le hp (show 1 * fac (n + 1) ≤ v / (n : Int) by omega)
  omega
section
variable {P : Program} {w : World} {K : Fg} {mg : Str → Option Value} {base : Heap} {f : Addr} {fd : FuncData}
/-- what is told of the class of the errors -/
structure Err (K : Fg) (mg : Str → Option Value) (U : Addr) : Prop where
  gC : mg "Unfit" = some (.ref U)
  kC : PySem.W.keepIn K (.ref U) = true
  xC : PySem.W.excIn K U [.type "ValueError", .type "Exception", .type "BaseException", .type "object"] "ValueError.__new__" = true
  bC : PySem.W.subIn K (.ref U) (.type "BaseException") = some true
  tC : PySem.W.typeIn K (.ref U) = some (.type "type")
abbrev st_standing_at : Stmt := top 9
abbrev N_standing_at : List Str := ["n", "value", "row", "rest"]
theorem sc_standing_at : FnScope N_standing_at ["n", "value"] (defScope st_standing_at) := ⟨rfl, rfl, rfl, by decide +kernel, rfl, by decide +kernel, by decide +kernel⟩
def ansAt (U : Addr) (n : Nat) (d : PyData) (Q : Sl → List Sl → Prop) (QX : Value → Prop) : Prop := match d with
  | .int v => if v < 0 then QX (.ref U) else if 0 < (dg (n + 1) (v / n)).2 then QX (.ref U) else Q (.fz (.tuple [.tuple ((unr (n + 1) (v / n)).map PyData.int), .int (v % n)])) [.un, .un]
  | _ => QX (.ref U)
def ph_standing_at (U : Addr) : PhX := fun args Q QX => ∃ (n : Nat) (d : PyData), args = [.fz (.int n), .fz d] ∧ 1 ≤ n ∧ n ≤ 50 ∧ ansAt U n d Q QX
theorem ok_standing_at {U : Addr} (T : Txt mg) (Er : Err K mg U) (T_is_integer : Fn P w K mg base CX0 1 "is_integer" st_is_integer ["value"] (spB K 1 ph_is_integer)) (T_row_at : Fn P w K mg base CX0 1 "row_at" st_row_at ["many", "number"] (spB K 2 ph_row_at)) (F : Fun K "standing_at" "standing_at" st_standing_at f fd) : FnG P w K mg base (L2.CX P w) 2 f fd ["n", "value"] (spX K 2 (ph_standing_at U)) :=
  fgx_ok F sc_standing_at rfl (fun args Q QX ⟨n, d, e, _⟩ => by subst e; rfl) fun cdv A outer s H E hgd hr F1 B1 args Q QX hl h hX => by
    obtain ⟨n, d, rfl, h1, h2, h⟩ := h
    have tk := takes_of (X := cxOf (L2.CX P w) P w K mg base N_standing_at "standing_at" (defScope st_standing_at) f cdv A outer s H E) (E := E) rfl rfl rfl rfl
    refine ⟨_, bx_cons (bx_if (BW.bt (bw_or (bt_not (bt_val (be_callF T_is_integer hgd (hr.mono (by decide)) rfl (ba_cons (bv 1) ba_nil)))) (bw_or1 (bt_cmp cr_lt (bv 1) be_int)))) (bx_cons (bx_raise (PX := QX) (C := U) rfl tk (pmk_own00 PySem.F.excBase_ValueError Er.xC Er.gC Er.kC (raises_own Er.bC Er.tC) rfl) fun q F H σ r => hX _ F H q r) (bxs_of bss_nil)) (bxs_of bss_nil))
      (bx_cons (bx_of (bs_asg (be_callF T_row_at hgd (hr.mono (by decide)) rfl (ba_cons (be_add (bv 0) be_int) (ba_cons (be_fdivW (bv 1) (bv 0)) ba_nil))) (bg_tup rfl (bgs_cons (bg_name 2 sc_standing_at.nd) (bgs_cons (bg_name 3 sc_standing_at.nd) bgs_nil)))))
      (bx_cons (bx_if (bt_cmp cr_gt (bv 3) be_int) (bx_cons (bx_raise (PX := QX) (C := U) rfl tk (pmk_own00 PySem.F.excBase_ValueError Er.xC Er.gC Er.kC (raises_own Er.bC Er.tC) rfl) fun q F H σ r => hX _ F H q r) (bxs_of bss_nil)) (bxs_of bss_nil))
      (bx_cons (bx_of (bs_ret (be_tup (ba_cons (bv 2) (ba_cons (be_mod (bv 1) (bv 0)) ba_nil))))) (bxs_of bss_nil)))), ?_⟩
    refine atEnv [.fz (.int n), .fz d, .un, .un] rfl ?_
    simp only [bSeq, bRet, bAsg, bPar, bPar3, bTup4, gStore, bIfS, bNext, bDrop, bVar, bC, bOp, bUn, bII, bIC, bIB, asInts, asInt, asBool, asStrs, asStr, asView, vw, bCons, bNil, bTup, bLst, bFz, Ow.dat, bCB, one1, b1Len, lenD, b1List, b1Tuple, itemsOf, itemsL, itemsT, b1Int, b1Abs, b1Str, bIsi, bB, bAnd, bOr, bNot, bAndV, bOrV, bNotV, bChain, bIf, bIx, bMt, isL, mOwn, asDatas, datas, Option.map_some, fAppend, fPop, fPopAt, fRemove, mIndex, bCatL, ownL, bCatT, bRepL, bInI, bRevL, bRevT, bSl, oNone, oSome, bLstRg1, bTupRg1, bDown, bCall, callW, plainB, bCallK, List.getElem?_cons_zero, List.getElem?_cons_succ, List.set_cons_zero, List.set_cons_succ, endsF, intsD_map, b1Sorted, biTup, biSeq, biR1, biR2, b1Repr, isRefD, bAsI, bAsB, bAsD, bAsO, bNeE, atI_0, atI_1, dk, gTupB, gTups, bRaise, bDkS, bDkD, bDkP, bDkA, bDkPut, bDkNew, bDkCat]
    refine ⟨rfl, trivial, d, rfl, ?_⟩
    cases d with
    | int v =>
      simp only [isIntD, Bool.not_true, Bool.false_eq_true, if_false]
      have h' : if v < 0 then QX (.ref U) else if 0 < (dg (n + 1) (v / n)).2 then QX (.ref U) else Q (.fz (.tuple [.tuple ((unr (n + 1) (v / n)).map PyData.int), .int (v % n)])) [.un, .un] := h
      refine ifB (fun h4 => ?_) (fun h4 => ?_)
      · rw [if_pos (of_decide_eq_true h4)] at h'
        exact h'
      · rw [if_neg (of_decide_eq_false h4)] at h'
        have hlg := log_small n (by omega)
        refine ⟨⟨by omega, hlg⟩, rfl, trivial, n + 1, v / n, ?_, by omega, ?_⟩
        · have e : (((n + 1 : Nat) : Int)) = (n : Int) + 1 := by omega
          rw [e]
        simp only [bSeq, bRet, bAsg, bPar, bPar3, bTup4, gStore, bIfS, bNext, bDrop, bVar, bC, bOp, bUn, bII, bIC, bIB, asInts, asInt, asBool, asStrs, asStr, asView, vw, bCons, bNil, bTup, bLst, bFz, Ow.dat, bCB, one1, b1Len, lenD, b1List, b1Tuple, itemsOf, itemsL, itemsT, b1Int, b1Abs, b1Str, bIsi, bB, bAnd, bOr, bNot, bAndV, bOrV, bNotV, bChain, bIf, bIx, bMt, isL, mOwn, asDatas, datas, Option.map_some, fAppend, fPop, fPopAt, fRemove, mIndex, bCatL, ownL, bCatT, bRepL, bInI, bRevL, bRevT, bSl, oNone, oSome, bLstRg1, bTupRg1, bDown, bCall, callW, plainB, bCallK, List.getElem?_cons_zero, List.getElem?_cons_succ, List.set_cons_zero, List.set_cons_succ, endsF, intsD_map, b1Sorted, biTup, biSeq, biR1, biR2, b1Repr, isRefD, bAsI, bAsB, bAsD, bAsO, bNeE, atI_0, atI_1, dk, gTupB, gTups, bRaise, bDkS, bDkD, bDkP, bDkA, bDkPut, bDkNew, bDkCat]
        refine ⟨rfl, ifB (fun h5 => ?_) (fun h5 => ?_)⟩
        · rw [if_pos (of_decide_eq_true h5)] at h'
          exact h'
        · rw [if_neg (of_decide_eq_false h5)] at h'
          have hb := line_big
          exact ⟨by omega, by show 2 ≤ sizeLine; omega, h'⟩
    | _ =>
      simp only [isIntD, Bool.not_false, if_true]
      exact h
end
end K4

set_option maxHeartbeats 400000
/-! k04, part e: what is seen of a number. -/
namespace K4
open PySem L2 BV
structure Err2 (K : Fg) (mg : Str → Option Value) (U S : Addr) : Prop where
  er : Err K mg U
  gS : mg "SwapError" = some (.ref S)
  ei : ExcIs K U
  ex : PySem.W.exmOne K (.ref U) (.ref U) = some true
  ks : PySem.W.kitOne K (.ref U) (.ref S) = some true
def sWord (b : Bool) : PyData := .str (if b then "standing" else "unfit")
def refusal : List PyData := [.str "unfit", .bool true]
def seenL (n : Nat) (d : PyData) : List PyData := match d with
  | .int v => if v < 0 then refusal else if 0 < (dg (n + 1) (v / n)).2 then refusal else [.str "standing", .tuple [.tuple ((unr (n + 1) (v / n)).map PyData.int), .int (v % n)]]
  | _ => refusal
section
variable {P : Program} {w : World} {K : Fg} {mg : Str → Option Value} {base : Heap} {f : Addr} {fd : FuncData}
abbrev st__law_seen : Stmt := top 19
abbrev N__law_seen : List Str := ["n", "value", "is_named", "slip"]
theorem sc__law_seen : FnScope N__law_seen ["n", "value", "is_named"] (defScope st__law_seen) := ⟨rfl, rfl, rfl, by decide +kernel, rfl, by decide +kernel, by decide +kernel⟩
theorem kb_standing_at : ∀ (f : Addr) (fd : FuncData), Fun K "standing_at" "standing_at" st_standing_at f fd → KBinds K fd ["n", "value"] ["value", "n"] sw2 sw2 := fun f fd F => by
  obtain ⟨oc, od, kV, doc, pm, an, cdv, ct, osl, rfl, lk, hcd⟩ := F.ex
  refine ⟨fun s us ws hk hl => ?_, fun {vs us zs ws} r1 r2 => ?_⟩
  · match us, ws, hl with
    | [], [a, b], _ => exact .of_eq rfl
    | [], [], hl => exact absurd hl (by simp [sw2])
    | [], [_], hl => exact absurd hl (by simp [sw2])
    | [], _ :: _ :: _ :: _, hl => exact absurd hl (by simp [sw2])
    | _ :: _, _, hl => exact absurd hl (by simp [sw2])
  · cases r1 with
    | cons _ _ => exact .nil
    | nil =>
      cases r2 with
      | nil => exact .nil
      | cons q1 r2 =>
        cases r2 with
        | nil => exact .nil
        | cons q2 r2 =>
          cases r2 with
          | nil => exact .cons q2 (.cons q1 .nil)
          | cons q3 r2 => exact .nil
def seenB : BS := fun E env => ∃ (n : Nat) (d : PyData) (k : Bool), env = [.fz (.int n), .fz d, .fz (.bool k), .un] ∧ 1 ≤ n ∧ n ≤ 50 ∧ E.rt (.ow (.lst (seenL n d))) env
def tsU (U S : Addr) : Addr → Value → Option Addr → TS := fun a cls d D σ H => (cls = .ref U ∧ d = none) ∧ tRet (tLst (tCons (tC (.str "unfit")) (tCons (tCB (fun xs H Q => xs = [.ref a, .ref S] ∧ Q (.bl true) H) (tCons (tVar 3) (tCons (tC (.ref S)) tNil))) tNil))) D σ H
theorem pss_when {X : Cx} {st : List Stmt} {t : TS} {p : Prop} (h : p → PSs X st t) : PSs X st (fun D σ H => p ∧ t D σ H) := ⟨fun pins s σ H D I ⟨hp, q⟩ => (h hp).run pins s σ H D I q⟩
theorem seen_end {U S : Addr} {F0 B F H : Hp} {T : List Sl} {τ : List V} {σ : L2.St} {D : Ends} {E : BEnds} {n : Nat} {d : PyData} {a b : V} {k : Bool} (Er : Err2 K mg U S) (h1 : 1 ≤ n) (h2 : n ≤ 50)
    (r : R K F0 B F H (T ++ [.fz (.str "standing")] ++ [.fz (.int n), .fz d]) (τ ++ [V.str "standing"] ++ [a, b]) [.fz (.int n), .fz d, .fz (.bool k), .un] σ) (h : E.rt (.ow (.lst (seenL n d))) [.fz (.int n), .fz d, .fz (.bool k), .un]) (w : EndOk K F0 B T τ E D) :
    spX K 2 (ph_standing_at U) [a, b] H (fun x H' => [V.str "standing", x].length ≤ sizeLine ∧ ∀ p : Addr, H' p = none → D.rt (V.ref p) (upd H' p (HO.lst [V.str "standing", x]))) (WE (wAs K (.ref U) 3 (tsU U S) (fun _ _ _ _ => False) D) σ) := by
  have two : 2 ≤ sizeLine := by
    rw [sizeLine_eq]
    omega
  refine S_callX (P := fun s => ∃ y, s = .fz y ∧ seenL n d = [.str "standing", y]) (PX := fun cls => cls = .ref U ∧ seenL n d = refusal) r rfl rfl (plain_of rfl) ⟨n, d, rfl, h1, h2, ?_⟩ ?_ ?_
  · cases d with
    | int v =>
      show if v < 0 then _ else if 0 < (dg (n + 1) (v / n)).2 then _ else _
      have hs : seenL n (.int v) = if v < 0 then refusal else if 0 < (dg (n + 1) (v / n)).2 then refusal else [.str "standing", .tuple [.tuple ((unr (n + 1) (v / n)).map PyData.int), .int (v % n)]] := rfl
      by_cases c1 : v < 0
      · rw [if_pos c1] at hs ⊢
        exact ⟨rfl, hs⟩
      · rw [if_neg c1] at hs ⊢
        by_cases c2 : 0 < (dg (n + 1) (v / n)).2
        · rw [if_pos c2] at hs ⊢
          exact ⟨rfl, hs⟩
        · rw [if_neg c2] at hs ⊢
          exact ⟨_, rfl, hs⟩
    | _ => exact ⟨rfl, rfl⟩
  · rintro s v F' H' ⟨y, rfl, hy⟩ r'
    refine ⟨two, fun p hp => w.rt _ _ F' _ _ σ h ?_⟩
    rw [hy]
    exact r'.pop.pop.newL hp (.cons (.str _) (.cons r'.top_fz .nil))
  · rintro cls F' H' ⟨rfl, hy⟩ r'
    have hlt : 3 < σ.length := by
      have := r'.le
      simp at this
      omega
    refine ⟨true, Er.ex, fun _ a ha => ⟨⟨rfl, rfl⟩, _, List.getElem?_set_self hlt, rfl, two, fun p hp => w.rt _ _ F' _ _ σ h ?_⟩, fun z => nomatch z⟩
    rw [hy]
    exact r'.pop.newL hp (.cons (.str _) (.cons (.bl _) .nil))
def ph__law_seen : Ph := fun args Q => ∃ (n : Nat) (d : PyData) (k : Bool), args = [.fz (.int n), .fz d, .fz (.bool k)] ∧ 1 ≤ n ∧ n ≤ 50 ∧ Q (.ow (.lst (seenL n d))) [.un, .un, .un]
theorem ok__law_seen {U S : Addr} (T : Txt mg) (Er : Err2 K mg U S) (T_standing_at : Fn P w K mg base (L2.CX P w) 2 "standing_at" st_standing_at ["n", "value"] (spX K 2 (ph_standing_at U))) (F : Fun K "_law_seen" "_law_seen" st__law_seen f fd) : FnG P w K mg base CX0 3 f fd ["n", "value", "is_named"] (spB K 3 ph__law_seen) :=
  fg_ok (pins := []) F sc__law_seen rfl (by decide) (fun args Q ⟨n, d, k, e, _⟩ => by subst e; rfl) fun cdv A outer s H E hgd hr args Q hl h => by
    obtain ⟨n, d, k, rfl, h1, h2, h⟩ := h
    obtain ⟨f2, fd2, hm, kp, FF, hb, G⟩ := T_standing_at.ex
    refine ⟨seenB, bss_one (bs_of (ps_try_as (i := 3) (tb := fun W => tRet (tLst (tCons (tC (.str "standing")) (tCons (tIf (ttB K (bB (bVar 2))) (fun σ H Q => taB K (bCons (bVar 1) (bCons (bVar 0) bNil)) σ H fun zs H2 => spX K 2 (ph_standing_at U) (sw2 [] zs) H2 Q (WE W σ)) (tCallS (spX K 2 (ph_standing_at U)) (WE W) (taB K (bCons (bVar 0) (bCons (bVar 1) bNil))))) tNil)))) (ts := tsU U S) (Wout := fun _ _ _ _ => False) rfl rfl sc__law_seen.nd rfl rfl ⟨rfl, by decide, Or.inl Er.er.gC⟩ takes0
      (fun W pn xe tk _ => pss_one (ps_ret (pe_lst (pa_cons pe_str (pa_cons (pe_ifExp (bt_val (bv 2)) (pgS_callK0 G hgd hr (fun σ => passAt tk σ) rfl hm kp (kb_standing_at f2 fd2 FF) (bk_cons (bv 1) (bk_cons (bv 0) bk_nil)).pk) (pgS_call G hgd hr (fun σ => passAt tk σ) rfl hm kp hb (ba_cons (bv 0) (ba_cons (bv 1) ba_nil)))) pa_nil)))))
      (fun a oe cls d pn hz hf => ?_)) ?_), ?_⟩
    · unfold tsU
      refine pss_when fun hcd => ?_
      obtain ⟨hc, hd⟩ := hcd
      subst hc
      subst hd
      exact pss_one (ps_ret (pe_lst (pa_cons pe_str (pa_cons (pe_callB (isi_exc Er.ei (List.mem_cons_self ..) hz hf Er.ks) rfl T.n_isinstance PyProof.Rows.boot_isinstance (pa_cons (pe_var (i := 3) rfl (Or.inl rfl) (by decide) (by decide)) (pa_cons (pe_glob (v := .ref S) rfl Er.gS rfl) pa_nil))) pa_nil))))
    · intro F0 B F H T τ env σ D E hp r h w
      obtain ⟨n, d, k, rfl, h1, h2, h⟩ := h
      have rs := r.push_fz (.str "standing")
      refine st_B (bB (bVar 2)) F0 B F H _ _ _ σ _ (fun j e => j = k ∧ e = [.fz (.int n), .fz d, .fz (.bool k), .un]) rs ?_ ?_
      · simp only [bSeq, bRet, bAsg, bPar, bPar3, bTup4, gStore, bIfS, bNext, bDrop, bVar, bC, bOp, bUn, bII, bIC, bIB, asInts, asInt, asBool, asStrs, asStr, asView, vw, bCons, bNil, bTup, bLst, bFz, Ow.dat, bCB, one1, b1Len, lenD, b1List, b1Tuple, itemsOf, itemsL, itemsT, b1Int, b1Abs, b1Str, bIsi, bB, bAnd, bOr, bNot, bAndV, bOrV, bNotV, bChain, bIf, bIx, bMt, isL, mOwn, asDatas, datas, Option.map_some, fAppend, fPop, fPopAt, fRemove, mIndex, bCatL, ownL, bCatT, bRepL, bInI, bRevL, bRevT, bSl, oNone, oSome, bLstRg1, bTupRg1, bDown, bCall, callW, plainB, bCallK, List.getElem?_cons_zero, List.getElem?_cons_succ, List.set_cons_zero, List.set_cons_succ, endsF, intsD_map, b1Sorted, biTup, biSeq, biR1, biR2, b1Repr, isRefD, bAsI, bAsB, bAsD, bAsO, bNeE, atI_0, atI_1, dk, gTupB, gTups, bRaise, bDkS, bDkD, bDkP, bDkA, bDkPut, bDkNew, bDkCat]
        exact ⟨trivial, trivial⟩
      · rintro j F1 H1 e3 ⟨rfl, rfl⟩ rs1
        refine ifB (fun _ => ?_) (fun _ => ?_)
        · refine sa_B (bCons (bVar 1) (bCons (bVar 0) bNil)) F0 B F1 H1 _ _ _ σ _ (fun ss e => ss = [.fz d, .fz (.int n)] ∧ e = [.fz (.int n), .fz d, .fz (.bool j), .un]) rs1 ?_ ?_
          · simp only [bSeq, bRet, bAsg, bPar, bPar3, bTup4, gStore, bIfS, bNext, bDrop, bVar, bC, bOp, bUn, bII, bIC, bIB, asInts, asInt, asBool, asStrs, asStr, asView, vw, bCons, bNil, bTup, bLst, bFz, Ow.dat, bCB, one1, b1Len, lenD, b1List, b1Tuple, itemsOf, itemsL, itemsT, b1Int, b1Abs, b1Str, bIsi, bB, bAnd, bOr, bNot, bAndV, bOrV, bNotV, bChain, bIf, bIx, bMt, isL, mOwn, asDatas, datas, Option.map_some, fAppend, fPop, fPopAt, fRemove, mIndex, bCatL, ownL, bCatT, bRepL, bInI, bRevL, bRevT, bSl, oNone, oSome, bLstRg1, bTupRg1, bDown, bCall, callW, plainB, bCallK, List.getElem?_cons_zero, List.getElem?_cons_succ, List.set_cons_zero, List.set_cons_succ, endsF, intsD_map, b1Sorted, biTup, biSeq, biR1, biR2, b1Repr, isRefD, bAsI, bAsB, bAsD, bAsO, bNeE, atI_0, atI_1, dk, gTupB, gTups, bRaise, bDkS, bDkD, bDkP, bDkA, bDkPut, bDkNew, bDkCat]
            exact ⟨trivial, trivial⟩
          · rintro ss vs F2 H2 e4 ⟨rfl, rfl⟩ hl2 rs2
            match vs, hl2, rs2 with
            | [a, b], _, rs2 =>
              have ra := R.datas (S := [.fz d, .fz (.int n)]) rfl rs2 (ds := [d, .int n]) rfl
              cases ra with
              | cons q1 q2 =>
                cases q2 with
                | cons q2 q3 =>
                  have rs3 : R K F0 B F2 H2 (T ++ [.fz (.str "standing")] ++ [.fz (.int n), .fz d]) (τ ++ [V.str "standing"] ++ [b, a]) [.fz (.int n), .fz d, .fz (.bool j), .un] σ := by
                    have := ((rs2.popn (S := [.fz d, .fz (.int n)]) (ν := [a, b]) rfl).push_fz q2).push_fz q1
                    simpa [List.append_assoc] using this
                  exact seen_end Er h1 h2 rs3 h w
        · refine sa_B (bCons (bVar 0) (bCons (bVar 1) bNil)) F0 B F1 H1 _ _ _ σ _ (fun ss e => ss = [.fz (.int n), .fz d] ∧ e = [.fz (.int n), .fz d, .fz (.bool j), .un]) rs1 ?_ ?_
          · simp only [bSeq, bRet, bAsg, bPar, bPar3, bTup4, gStore, bIfS, bNext, bDrop, bVar, bC, bOp, bUn, bII, bIC, bIB, asInts, asInt, asBool, asStrs, asStr, asView, vw, bCons, bNil, bTup, bLst, bFz, Ow.dat, bCB, one1, b1Len, lenD, b1List, b1Tuple, itemsOf, itemsL, itemsT, b1Int, b1Abs, b1Str, bIsi, bB, bAnd, bOr, bNot, bAndV, bOrV, bNotV, bChain, bIf, bIx, bMt, isL, mOwn, asDatas, datas, Option.map_some, fAppend, fPop, fPopAt, fRemove, mIndex, bCatL, ownL, bCatT, bRepL, bInI, bRevL, bRevT, bSl, oNone, oSome, bLstRg1, bTupRg1, bDown, bCall, callW, plainB, bCallK, List.getElem?_cons_zero, List.getElem?_cons_succ, List.set_cons_zero, List.set_cons_succ, endsF, intsD_map, b1Sorted, biTup, biSeq, biR1, biR2, b1Repr, isRefD, bAsI, bAsB, bAsD, bAsO, bNeE, atI_0, atI_1, dk, gTupB, gTups, bRaise, bDkS, bDkD, bDkP, bDkA, bDkPut, bDkNew, bDkCat]
            exact ⟨trivial, trivial⟩
          · rintro ss vs F2 H2 e4 ⟨rfl, rfl⟩ hl2 rs2
            match vs, hl2, rs2 with
            | [a, b], _, rs2 => exact seen_end Er h1 h2 rs2 h w
    · refine ⟨n, d, k, rfl, h1, h2, ?_⟩
      exact h
end
end K4

set_option maxHeartbeats 400000
/-! k04, part f: one standing and its number. -/
namespace BV
open PySem L2
section
variable {X : Cx} {K : Fg}
def bStrB (g : Str → Str → Bool) : B2 := fun s t e P => asStrs s t fun i j => P (.fz (.bool (g i j))) e
theorem cr_eqS : Cq X .Eq (bStrB fun i j => i == j) := ⟨_, op_eq, fun F0 B F H T τ env σ s t x y Q P r h w => by
  obtain ⟨i, j, rfl, rfl, p⟩ := asStrs_of h
  cases str_of r.pop.top_fz
  cases str_of r.top_fz
  refine ⟨rfl, ?_⟩
  rw [dec_str]
  exact w.fz r (.bl _) p⟩
theorem cr_neS : Cq X .NotEq (bStrB fun i j => i != j) := ⟨_, op_ne, fun F0 B F H T τ env σ s t x y Q P r h w => by
  obtain ⟨i, j, rfl, rfl, p⟩ := asStrs_of h
  cases str_of r.pop.top_fz
  cases str_of r.top_fz
  refine ⟨rfl, ?_⟩
  rw [dec_str]
  exact w.fz r (.bl _) p⟩
end
/-! what repr shows is short -/
structure Sh (d : PyData) (w k : Nat) : Prop where
  c : d.canLay0 = true
  s : d.showable = true
  l : d.leavesShort 13 = true
  dp : d.depth ≤ k
  wt : d.weight ≤ w
theorem Sh.shows {d : PyData} {w k : Nat} (h : Sh d w k) (hw : w ≤ 1000000) (hk : k ≤ 64) : Shows d := ⟨h.c, h.s, Nat.le_trans h.dp hk, PyData.shown_fits (B := 13) (by decide) (by decide) h.l (Nat.le_trans h.wt (Nat.le_trans hw (by decide)))⟩
theorem Sh.mono {d : PyData} {w k w' k' : Nat} (h : Sh d w k) (hw : w ≤ w') (hk : k ≤ k') : Sh d w' k' := ⟨h.c, h.s, h.l, Nat.le_trans h.dp hk, Nat.le_trans h.wt hw⟩
theorem sh_int {i : Int} (h : i.natAbs < 1000000000000) : Sh (.int i) 40 0 := by
  have hl : i.natAbs.log2 < 40 := by
    by_cases h0 : i.natAbs = 0
    · rw [h0]
      decide +kernel
    · exact (Nat.log2_lt h0).mpr (Nat.lt_trans h (by decide))
  refine ⟨rfl, ?_, ?_, Nat.le_refl _, ?_⟩
  · simp only [PyData.showable, decide_eq_true_eq]
    omega
  · simp only [PyData.leavesShort, decide_eq_true_eq]
    exact PyData.shown_int_le (by exact h)
  · simp only [PyData.weight]
    split <;> omega
theorem sh_bool {b : Bool} : Sh (.bool b) 0 0 := ⟨rfl, rfl, rfl, Nat.le_refl _, Nat.le_refl _⟩
theorem sh_all {w k : Nat} : ∀ {ds : List PyData}, (∀ d ∈ ds, Sh d w k) → PyData.canLayAll0 ds = true ∧ PyData.showableAll ds = true ∧ PyData.leavesShortAll 13 ds = true ∧ PyData.depthAll ds ≤ k ∧ PyData.weightAll ds ≤ (w + 1) * ds.length
  | [], _ => ⟨rfl, rfl, rfl, by simp [PyData.depthAll], by simp [PyData.weightAll]⟩
  | d :: ds, h => by
    have h1 := h d (List.mem_cons_self ..)
    obtain ⟨a1, a2, a3, a4, a5⟩ := sh_all (ds := ds) fun x hx => h x (List.mem_cons_of_mem _ hx)
    have h2 := h1.dp
    have h3 := h1.wt
    refine ⟨by simp only [PyData.canLayAll0, h1.c, a1, Bool.and_self], by simp only [PyData.showableAll, h1.s, a2, Bool.and_self], by simp only [PyData.leavesShortAll, h1.l, a3, Bool.and_self], by simp only [PyData.depthAll]; omega, ?_⟩
    simp only [PyData.weightAll, List.length_cons, Nat.mul_add, Nat.mul_one]
    omega
theorem sh_list {w k : Nat} {ds : List PyData} (h : ∀ d ∈ ds, Sh d w k) : Sh (.list ds) ((w + 1) * ds.length) (k + 1) := by
  obtain ⟨a1, a2, a3, a4, a5⟩ := sh_all h
  exact ⟨by simpa only [PyData.canLay0] using a1, by simpa only [PyData.showable] using a2, by simpa only [PyData.leavesShort] using a3, by simp only [PyData.depth]; omega, by simpa only [PyData.weight] using a5⟩
theorem sh_tup {w k : Nat} {ds : List PyData} (h : ∀ d ∈ ds, Sh d w k) : Sh (.tuple ds) ((w + 1) * ds.length) (k + 1) := by
  obtain ⟨a1, a2, a3, a4, a5⟩ := sh_all h
  exact ⟨by simpa only [PyData.canLay0] using a1, by simpa only [PyData.showable] using a2, by simpa only [PyData.leavesShort] using a3, by simp only [PyData.depth]; omega, by simpa only [PyData.weight] using a5⟩
theorem two_mem {P : PyData → Prop} {a b : PyData} (ha : P a) (hb : P b) : ∀ d ∈ [a, b], P d := fun d hd => by
  rcases List.mem_cons.mp hd with e | hd
  · exact e ▸ ha
  · rcases List.mem_cons.mp hd with e | hd
    · exact e ▸ hb
    · cases hd
end BV
namespace K4
open PySem L2 BV
def stdD (ns : List Int) (st : Int) : PyData := .tuple [.tuple (ns.map PyData.int), .int st]
theorem sh_std {ns : List Int} {st : Int} {n : Nat} (hp : ns.Perm (rgI (n + 1))) (hn : n ≤ 12) (h0 : 0 ≤ st) (h1 : st < n) : Sh (stdD ns st) 1100 2 := by
  have hlen : ns.length = n + 1 := by rw [hp.length_eq, rgI_len]
  have hsm : ∀ t ∈ ns, 0 ≤ t ∧ t < 13 := fun t ht => by
    have := hp.subset ht
    unfold rgI at this
    obtain ⟨i, hi, rfl⟩ := List.mem_map.mp this
    have := List.mem_range.mp hi
    omega
  have h2 : Sh (.tuple (ns.map PyData.int)) ((40 + 1) * (ns.map PyData.int).length) (0 + 1) := sh_tup fun d hd => by
    obtain ⟨t, ht, rfl⟩ := List.mem_map.mp hd
    have := hsm t ht
    exact sh_int (by omega)
  have h3 : Sh (stdD ns st) ((533 + 1) * [PyData.tuple (ns.map PyData.int), .int st].length) (1 + 1) := sh_tup (two_mem (h2.mono (by rw [List.length_map, hlen]; omega) (Nat.le_refl _)) ((sh_int (by omega)).mono (by omega) (by omega)))
  exact h3.mono (by simp) (by omega)
theorem fac_small : ∀ n, n < 13 → fac (n + 1) ≤ 6227020800 := by decide +kernel
section
variable {P : Program} {w : World} {K : Fg} {mg : Str → Option Value} {base : Heap} {f : Addr} {fd : FuncData}
abbrev st__law_is_right : Stmt := top 20
abbrev N__law_is_right : List Str := ["n", "standing", "number", "is_named", "kept", "seen"]
theorem sc__law_is_right : FnScope N__law_is_right ["n", "standing", "number", "is_named"] (defScope st__law_is_right) := ⟨rfl, rfl, rfl, by decide +kernel, rfl, by decide +kernel, by decide +kernel⟩
theorem kb_standing_number : ∀ (f : Addr) (fd : FuncData), Fun K "standing_number" "standing_number" st_standing_number f fd → KBinds K fd ["n", "standing"] ["standing", "n"] sw2 sw2 := fun f fd F => by
  obtain ⟨oc, od, kV, doc, pm, an, cdv, ct, osl, rfl, lk, hcd⟩ := F.ex
  refine ⟨fun s us ws hk hl => ?_, fun {vs us zs ws} r1 r2 => ?_⟩
  · match us, ws, hl with
    | [], [a, b], _ => exact .of_eq rfl
    | [], [], hl => exact absurd hl (by simp [sw2])
    | [], [_], hl => exact absurd hl (by simp [sw2])
    | [], _ :: _ :: _ :: _, hl => exact absurd hl (by simp [sw2])
    | _ :: _, _, hl => exact absurd hl (by simp [sw2])
  · cases r1 with
    | cons _ _ => exact .nil
    | nil =>
      cases r2 with
      | nil => exact .nil
      | cons q1 r2 =>
        cases r2 with
        | nil => exact .nil
        | cons q2 r2 =>
          cases r2 with
          | nil => exact .cons q2 (.cons q1 .nil)
          | cons q3 r2 => exact .nil
def numOf (n : Nat) (ns : List Int) (st : Int) : Int := rank (rgI (n + 1)) ns * n + st
theorem seen_num {n : Nat} {ns : List Int} {st : Int} (hp : ns.Perm (rgI (n + 1))) (h1 : 1 ≤ n) (h0 : 0 ≤ st) (hs : st < n) : seenL n (.int (numOf n ns st)) = [.str "standing", stdD ns st] ∧ 0 ≤ numOf n ns st ∧ numOf n ns st < n * fac (n + 1) := by
  obtain ⟨b1, b2, b3, b4⟩ := row_back hp
  have hr : 0 ≤ rank (rgI (n + 1)) ns * (n : Int) := Int.mul_nonneg b3 (by omega)
  have e1 : numOf n ns st / (n : Int) = rank (rgI (n + 1)) ns := by
    unfold numOf
    rw [Int.add_comm, Int.add_mul_ediv_right _ _ (by omega), Int.ediv_eq_zero_of_lt h0 hs]
    omega
  have e2 : numOf n ns st % (n : Int) = st := by
    unfold numOf
    rw [Int.add_comm, Int.add_mul_emod_self_right]
    exact Int.emod_eq_of_lt h0 hs
  have e3 : 0 ≤ numOf n ns st := by
    unfold numOf
    omega
  refine ⟨?_, e3, ?_⟩
  · show (if numOf n ns st < 0 then refusal else if 0 < (dg (n + 1) (numOf n ns st / n)).2 then refusal else [.str "standing", .tuple [.tuple ((unr (n + 1) (numOf n ns st / n)).map PyData.int), .int (numOf n ns st % n)]]) = _
    rw [if_neg (by omega), e1, e2, b2, if_neg (by omega), b1]
    rfl
  · have h5 : (rank (rgI (n + 1)) ns + 1) * (n : Int) ≤ fac (n + 1) * (n : Int) := Int.mul_le_mul_of_nonneg_right (by omega) (by omega)
    rw [Int.add_mul, Int.one_mul] at h5
    unfold numOf
    rw [Int.mul_comm (n : Int)]
    omega
def ph__law_is_right : Ph := fun args Q => ∃ (n : Nat) (ns : List Int) (st : Int) (k : Bool), args = [.fz (.int n), .fz (stdD ns st), .fz (.int (numOf n ns st)), .fz (.bool k)] ∧ ns.Perm (rgI (n + 1)) ∧ 1 ≤ n ∧ n ≤ 12 ∧ 0 ≤ st ∧ st < n ∧ Q (.fz (.bool true)) [.un, .un, .un, .un]
theorem ok__law_is_right (T : Txt mg) (T_standing_number : Fn P w K mg base CX0 2 "standing_number" st_standing_number ["n", "standing"] (spB K 2 ph_standing_number)) (T__law_seen : Fn P w K mg base CX0 3 "_law_seen" st__law_seen ["n", "value", "is_named"] (spB K 3 ph__law_seen))
    (F : Fun K "_law_is_right" "_law_is_right" st__law_is_right f fd) : FnG P w K mg base CX0 4 f fd ["n", "standing", "number", "is_named"] (spB K 4 ph__law_is_right) :=
  fg_ok (pins := []) F sc__law_is_right rfl (by decide) (fun args Q ⟨n, ns, st, k, e, _⟩ => by subst e; rfl) fun cdv A outer s H E hgd hr args Q hl h => by
    obtain ⟨n, ns, st, k, rfl, hp, h1, h2, h0, hs, h⟩ := h
    refine ⟨_, (bss_cons (bs_set 4 sc__law_is_right.nd (be_cb (cq_repr hgd (hu65 hr)) rfl T.n_repr PyProof.Rows.boot_repr (ba_cons (bv 1) ba_nil)))
      (bss_cons (bs_set 5 sc__law_is_right.nd (be_if (bt_val (bv 3)) (be_asI (be_callF2 T_standing_number hgd (hr.mono (by decide)) rfl (bk_cons (bv 1) (bk_cons (bv 0) bk_nil)) (a1 := "") (a2 := "") kb_standing_number)) (be_asI (be_callF T_standing_number hgd (hr.mono (by decide)) rfl (ba_cons (bv 0) (ba_cons (bv 1) ba_nil))))))
      (bss_cons (bs_if (BW.bt (bw_or (bt_cmp cr_neS (be_cb (cq_repr hgd (hu65 hr)) rfl T.n_repr PyProof.Rows.boot_repr (ba_cons (be_lst (ba_cons (bv 5) (ba_cons (be_asI (be_callF T_standing_number hgd (hr.mono (by decide)) rfl (ba_cons (bv 0) (ba_cons (bv 1) ba_nil)))) ba_nil))) ba_nil)) (be_cb (cq_repr hgd (hu65 hr)) rfl T.n_repr PyProof.Rows.boot_repr (ba_cons (be_lst (ba_cons (bv 2) (ba_cons (bv 2) ba_nil))) ba_nil))) (bw_or1 (bt_cmp cr_neS (be_cb (cq_repr hgd (hu65 hr)) rfl T.n_repr PyProof.Rows.boot_repr (ba_cons (bv 1) ba_nil)) (bv 4))))) (bss_one (bs_ret be_bl)) bss_nil)
      (bss_one (bs_ret (be_cmp cr_eqS (be_cb (cq_repr hgd (hu65 hr)) rfl T.n_repr PyProof.Rows.boot_repr (ba_cons (be_lst (ba_cons (be_fz (be_asO (be_callF T__law_seen hgd (hr.mono (by decide)) rfl (ba_cons (bv 0) (ba_cons (bv 2) (ba_cons (bv 3) ba_nil)))))) (ba_cons (be_fz (be_asO (be_callF T__law_seen hgd (hr.mono (by decide)) rfl (ba_cons (bv 0) (ba_cons (bv 2) (ba_cons be_bl ba_nil)))))) ba_nil))) ba_nil)) (be_cb (cq_repr hgd (hu65 hr)) rfl T.n_repr PyProof.Rows.boot_repr (ba_cons (be_repL (be_lst (ba_cons (be_fz (be_lst (ba_cons be_str (ba_cons (bv 1) ba_nil)))) ba_nil)) be_int) ba_nil)))))))), ?_⟩
    refine atEnv [.fz (.int n), .fz (stdD ns st), .fz (.int (numOf n ns st)), .fz (.bool k), .un, .un] rfl ?_
    obtain ⟨sn1, sn2, sn3⟩ := seen_num hp h1 h0 hs
    have hfac := fac_small n (by omega)
    have hsh := sh_std hp h2 h0 hs
    have hb := line_big
    have hbig : numOf n ns st < 1000000000000 := by
      have hx : (n : Int) * fac (n + 1) ≤ 12 * 6227020800 := Int.mul_le_mul (by omega) hfac (Int.le_of_lt (fac_pos _)) (by omega)
      omega
    have hN : Sh (.int (numOf n ns st)) 40 0 := sh_int (by omega)
    have x2 : Shows (.list [.int (numOf n ns st), .int (numOf n ns st)]) := (sh_list (two_mem hN hN)).shows (by simp) (by omega)
    have hW : Sh (.str "standing") 40 0 := ⟨by decide +kernel, rfl, by decide +kernel, Nat.le_refl _, by decide +kernel⟩
    have h4 : Sh (.list [.str "standing", stdD ns st]) 2300 3 := (sh_list (two_mem (hW.mono (by omega) (by omega)) hsh)).mono (by simp) (by omega)
    have x4 : Shows (.list [.list [.str "standing", stdD ns st], .list [.str "standing", stdD ns st]]) := (sh_list (two_mem h4 h4)).shows (by simp) (by omega)
    have two : 2 ≤ sizeLine := by omega
    have eN : rank (rgI (n + 1)) ns * (n : Int) + st = numOf n ns st := rfl
    simp only [bSeq, bRet, bAsg, bPar, bPar3, bTup4, gStore, bIfS, bNext, bDrop, bVar, bC, bOp, bUn, bII, bIC, bIB, asInts, asInt, asBool, asStrs, asStr, asView, vw, bCons, bNil, bTup, bLst, bFz, Ow.dat, bCB, one1, b1Len, lenD, b1List, b1Tuple, itemsOf, itemsL, itemsT, b1Int, b1Abs, b1Str, bIsi, bB, bAnd, bOr, bNot, bAndV, bOrV, bNotV, bChain, bIf, bIx, bMt, isL, mOwn, asDatas, datas, Option.map_some, fAppend, fPop, fPopAt, fRemove, mIndex, bCatL, ownL, bCatT, bRepL, bInI, bRevL, bRevT, bSl, oNone, oSome, bLstRg1, bTupRg1, bDown, bCall, callW, plainB, bCallK, List.getElem?_cons_zero, List.getElem?_cons_succ, List.set_cons_zero, List.set_cons_succ, endsF, intsD_map, b1Sorted, biTup, biSeq, biR1, biR2, b1Repr, isRefD, bStrB, bAsI, bAsB, bAsD, bAsO, bNeE, atI_0, atI_1, dk, gTupB, gTups, bRaise, bDkS, bDkD, bDkP, bDkA, bDkPut, bDkNew, bDkCat]
    refine ⟨⟨rfl, hsh.shows (by omega) (by omega)⟩, ?_⟩
    refine ifB (fun hk => ⟨rfl, n, st, ns, n + 1, rfl, hp, by omega, ⟨by omega, by omega⟩, ?_⟩) (fun hk => ⟨rfl, trivial, n, st, ns, n + 1, rfl, hp, by omega, ⟨by omega, by omega⟩, ?_⟩)
    all_goals
      simp only [bSeq, bRet, bAsg, bPar, bPar3, bTup4, gStore, bIfS, bNext, bDrop, bVar, bC, bOp, bUn, bII, bIC, bIB, asInts, asInt, asBool, asStrs, asStr, asView, vw, bCons, bNil, bTup, bLst, bFz, Ow.dat, bCB, one1, b1Len, lenD, b1List, b1Tuple, itemsOf, itemsL, itemsT, b1Int, b1Abs, b1Str, bIsi, bB, bAnd, bOr, bNot, bAndV, bOrV, bNotV, bChain, bIf, bIx, bMt, isL, mOwn, asDatas, datas, Option.map_some, fAppend, fPop, fPopAt, fRemove, mIndex, bCatL, ownL, bCatT, bRepL, bInI, bRevL, bRevT, bSl, oNone, oSome, bLstRg1, bTupRg1, bDown, bCall, callW, plainB, bCallK, List.getElem?_cons_zero, List.getElem?_cons_succ, List.set_cons_zero, List.set_cons_succ, endsF, intsD_map, b1Sorted, biTup, biSeq, biR1, biR2, b1Repr, isRefD, bStrB, bAsI, bAsB, bAsD, bAsO, bNeE, atI_0, atI_1, dk, gTupB, gTups, bRaise, bDkS, bDkD, bDkP, bDkA, bDkPut, bDkNew, bDkCat]
      refine ⟨rfl, trivial, n, st, ns, n + 1, rfl, hp, by omega, ⟨by omega, by omega⟩, ?_⟩
      simp only [bSeq, bRet, bAsg, bPar, bPar3, bTup4, gStore, bIfS, bNext, bDrop, bVar, bC, bOp, bUn, bII, bIC, bIB, asInts, asInt, asBool, asStrs, asStr, asView, vw, bCons, bNil, bTup, bLst, bFz, Ow.dat, bCB, one1, b1Len, lenD, b1List, b1Tuple, itemsOf, itemsL, itemsT, b1Int, b1Abs, b1Str, bIsi, bB, bAnd, bOr, bNot, bAndV, bOrV, bNotV, bChain, bIf, bIx, bMt, isL, mOwn, asDatas, datas, Option.map_some, fAppend, fPop, fPopAt, fRemove, mIndex, bCatL, ownL, bCatT, bRepL, bInI, bRevL, bRevT, bSl, oNone, oSome, bLstRg1, bTupRg1, bDown, bCall, callW, plainB, bCallK, List.getElem?_cons_zero, List.getElem?_cons_succ, List.set_cons_zero, List.set_cons_succ, endsF, intsD_map, b1Sorted, biTup, biSeq, biR1, biR2, b1Repr, isRefD, bStrB, bAsI, bAsB, bAsD, bAsO, bNeE, atI_0, atI_1, dk, gTupB, gTups, bRaise, bDkS, bDkD, bDkP, bDkA, bDkPut, bDkNew, bDkCat]
      rw [eN]
      refine ⟨two, ⟨trivial, x2⟩, two, ⟨trivial, x2⟩, ifB (fun c => ?_) (fun _ => ⟨⟨rfl, hsh.shows (by omega) (by omega)⟩, ifB (fun c => ?_) (fun _ => ⟨rfl, trivial, n, .int (numOf n ns st), k, rfl, h1, by omega, ?_⟩)⟩)⟩
      · simp at c
      · simp at c
      · rw [sn1]
        simp only [bSeq, bRet, bAsg, bPar, bPar3, bTup4, gStore, bIfS, bNext, bDrop, bVar, bC, bOp, bUn, bII, bIC, bIB, asInts, asInt, asBool, asStrs, asStr, asView, vw, bCons, bNil, bTup, bLst, bFz, Ow.dat, bCB, one1, b1Len, lenD, b1List, b1Tuple, itemsOf, itemsL, itemsT, b1Int, b1Abs, b1Str, bIsi, bB, bAnd, bOr, bNot, bAndV, bOrV, bNotV, bChain, bIf, bIx, bMt, isL, mOwn, asDatas, datas, Option.map_some, fAppend, fPop, fPopAt, fRemove, mIndex, bCatL, ownL, bCatT, bRepL, bInI, bRevL, bRevT, bSl, oNone, oSome, bLstRg1, bTupRg1, bDown, bCall, callW, plainB, bCallK, List.getElem?_cons_zero, List.getElem?_cons_succ, List.set_cons_zero, List.set_cons_succ, endsF, intsD_map, b1Sorted, biTup, biSeq, biR1, biR2, b1Repr, isRefD, bStrB, bAsI, bAsB, bAsD, bAsO, bNeE, atI_0, atI_1, dk, gTupB, gTups, bRaise, bDkS, bDkD, bDkP, bDkA, bDkPut, bDkNew, bDkCat]
        refine ⟨rfl, trivial, n, .int (numOf n ns st), false, rfl, h1, by omega, ?_⟩
        rw [sn1]
        simp only [bSeq, bRet, bAsg, bPar, bPar3, bTup4, gStore, bIfS, bNext, bDrop, bVar, bC, bOp, bUn, bII, bIC, bIB, asInts, asInt, asBool, asStrs, asStr, asView, vw, bCons, bNil, bTup, bLst, bFz, Ow.dat, bCB, one1, b1Len, lenD, b1List, b1Tuple, itemsOf, itemsL, itemsT, b1Int, b1Abs, b1Str, bIsi, bB, bAnd, bOr, bNot, bAndV, bOrV, bNotV, bChain, bIf, bIx, bMt, isL, mOwn, asDatas, datas, Option.map_some, fAppend, fPop, fPopAt, fRemove, mIndex, bCatL, ownL, bCatT, bRepL, bInI, bRevL, bRevT, bSl, oNone, oSome, bLstRg1, bTupRg1, bDown, bCall, callW, plainB, bCallK, List.getElem?_cons_zero, List.getElem?_cons_succ, List.set_cons_zero, List.set_cons_succ, endsF, intsD_map, b1Sorted, biTup, biSeq, biR1, biR2, b1Repr, isRefD, bStrB, bAsI, bAsB, bAsD, bAsO, bNeE, atI_0, atI_1, dk, gTupB, gTups, bRaise, bDkS, bDkD, bDkP, bDkA, bDkPut, bDkNew, bDkCat]
        refine ⟨two, ⟨trivial, x4⟩, two, (by show 1 ≤ sizeLine; omega), ⟨by omega, by omega, (by show 1 * 2 ≤ sizeLine; omega)⟩, ⟨trivial, x4⟩, ?_⟩
        show Q (.fz (.bool ((PyData.list [.list [.str "standing", stdD ns st], .list [.str "standing", stdD ns st]]).shown == (PyData.list [.list [.str "standing", stdD ns st], .list [.str "standing", stdD ns st]]).shown))) _
        rw [beq_self_eq_true]
        exact h
end
end K4

set_option maxHeartbeats 400000
/-! k04, part g: the law itself, statement by statement. -/
namespace K4
open PySem L2 BV
abbrev st_law : Stmt := top 21
abbrev N_law : List Str := ["script", "deck", "n", "number", "row", "turn", "stop", "standings", "standing", "odd", "value", "many"]
theorem sc_law : FnScope N_law ["script"] (defScope st_law) := ⟨rfl, rfl, rfl, by decide +kernel, rfl, by decide +kernel, by decide +kernel⟩
def forBody : Stmt → List Stmt
  | .For _ _ b _ _ => b
  | _ => []
abbrev nth (l : List Stmt) (i : Nat) : Stmt := l.getD i (.Pass ⟨0, 0, 0, 0⟩)
abbrev bB4 : List Stmt := forBody (nth (defBody st_law) 4)
def Good (n : Nat) (d : PyData) : Prop := ∃ ns st, d = stdD ns st ∧ ns.Perm (rgI (n + 1)) ∧ 0 ≤ st ∧ st < n
theorem perm_ints {ns : List Int} : ∀ {es : List PyData}, List.Perm es (ns.map PyData.int) → ∃ ms : List Int, es = ms.map PyData.int ∧ ms.Perm ns := fun {es} h => by
  have h1 : ∀ es : List PyData, (∀ d ∈ es, ∃ i : Int, d = .int i) → ∃ ms : List Int, es = ms.map PyData.int := fun es => by
    induction es with
    | nil => exact fun _ => ⟨[], rfl⟩
    | cons d es ih =>
      intro hd
      obtain ⟨i, rfl⟩ := hd d (List.mem_cons_self ..)
      obtain ⟨ms, rfl⟩ := ih fun x hx => hd x (List.mem_cons_of_mem _ hx)
      exact ⟨i :: ms, rfl⟩
  obtain ⟨ms, rfl⟩ := h1 es fun d hd => by
    obtain ⟨i, _, e⟩ := List.mem_map.mp (h.subset hd)
    exact ⟨i, e.symm⟩
  refine ⟨ms, rfl, ?_⟩
  have h2 := h.filterMap fun d => match d with
    | .int i => some i
    | _ => none
  rw [List.filterMap_map, List.filterMap_map] at h2
  have e : ((fun d => match d with | .int i => some i | _ => none) ∘ PyData.int) = (fun i : Int => some i) := rfl
  rw [e, List.filterMap_some, List.filterMap_some] at h2
  exact h2
theorem down_rg (n : Nat) : downI n (n + 1) = (rgI (n + 1)).reverse := by
  refine List.ext_getElem? fun i => ?_
  unfold downI rgI
  by_cases h : i < n + 1
  · rw [List.getElem?_map, List.getElem?_range h, List.getElem?_reverse (by simpa using h), List.getElem?_map, List.length_map, List.length_range, List.getElem?_range (by omega)]
    simp
    omega
  · rw [List.getElem?_eq_none (by simp; omega), List.getElem?_eq_none (by simp; omega)]
section
variable {P : Program} {w : World} {K : Fg} {mg : Str → Option Value} {base : Heap} {f : Addr} {fd : FuncData} {cdv : Value} {A : Around} {outer : List Env} {s : Shared} {H : Hp} {E0' : XK}
abbrev LX (P : Program) (w : World) (K : Fg) (mg : Str → Option Value) (base : Heap) (f : Addr) (cdv : Value) (A : Around) (outer : List Env) (s : Shared) (H : Hp) (E0' : XK) : Cx := (cxOf CX0 P w K mg base N_law "law" (defScope st_law) f cdv A outer s H E0').nox
variable (T : Txt mg) (hgd : A.guards = some []) (hr : Room 4 (A.deeper (PyProof.Rows.envOfC "law" (defScope st_law) s.heap.objs.size f cdv)))
  (T__law_deck : Fn P w K mg base CX0 1 "_law_deck" st__law_deck ["script"] (spB K 1 ph__law_deck))
  (T__law_draw : Fn P w K mg base CX0 1 "_law_draw" st__law_draw ["deck", "many"] (spB K 2 ph__law_draw))
  (T__law_pick : Fn P w K mg base CX0 2 "_law_pick" st__law_pick ["deck", "items"] (spB K 2 ph__law_pick))
  (T__law_mixed : Fn P w K mg base CX0 2 "_law_mixed" st__law_mixed ["deck", "items"] (spB K 2 ph__law_mixed))
  (T__law_many : Fn P w K mg base CX0 1 "_law_many" st__law_many ["n"] (spB K 1 ph__law_many))
  (T__law_rows : Fn P w K mg base CX0 1 "_law_rows" st__law_rows ["n"] (spB K 1 ph__law_rows))
  (T__law_number : Fn P w K mg base CX0 1 "_law_number" st__law_number ["n", "standing"] (spB K 2 ph__law_number))
  (T__law_standing : Fn P w K mg base CX0 1 "_law_standing" st__law_standing ["n", "number"] (spB K 2 ph__law_standing))
  (T__law_seen : Fn P w K mg base CX0 3 "_law_seen" st__law_seen ["n", "value", "is_named"] (spB K 3 ph__law_seen))
  (T__law_is_right : Fn P w K mg base CX0 4 "_law_is_right" st__law_is_right ["n", "standing", "number", "is_named"] (spB K 4 ph__law_is_right))
include T hgd hr T__law_deck T__law_draw T__law_pick T__law_mixed T__law_many T__law_rows T__law_number T__law_standing T__law_seen T__law_is_right
theorem L_B0 : ∃ b, BSt (LX P w K mg base f cdv A outer s H E0') [] (nth bB4 0) b ∧ ∀ (E : BEnds) ms st (t : Int) s0 s2 s3 s4 s6 s7 s8 s9 s10 s11, ms.length ≤ 63 → 0 ≤ t → (∀ ms' st' (n : Nat), ms'.length ≤ 63 → 1 ≤ n → n ≤ 12 → E.nx [s0, dk ms' st', .fz (.int n), s3, s4, .fz (.int t), s6, s7, s8, s9, s10, s11]) →
    b E [s0, dk ms st, s2, s3, s4, .fz (.int t), s6, s7, s8, s9, s10, s11] := by
  refine ⟨_, (bs_set 2 sc_law.nd (be_fz (be_asI (be_callF T__law_pick hgd (hr.mono (by decide)) rfl (ba_cons (bv 1) (ba_cons (be_fz (be_lst (ba_cons be_int (ba_cons be_int (ba_cons be_int (ba_cons be_int (ba_cons be_int (ba_cons be_int (ba_cons (be_add be_int (be_mod (be_ct cq_int rfl T.n_int PyProof.Rows.boot_int (ba_cons (bv 5) ba_nil)) be_int)) ba_nil))))))))) ba_nil)))))), fun E ms st t s0 s2 s3 s4 s6 s7 s8 s9 s10 s11 hm ht h => ?_⟩
  have hb := line_big
  have m1 : 0 ≤ t % 12 := Int.emod_nonneg _ (by omega)
  have m2 : t % 12 < 12 := Int.emod_lt_of_pos _ (by omega)
  simp only [bSeq, bRet, bAsg, bPar, bPar3, bTup4, gStore, bIfS, bNext, bDrop, bVar, bC, bOp, bUn, bII, bIC, bIB, asInts, asInt, asBool, asStrs, asStr, asView, vw, bCons, bNil, bTup, bLst, bFz, Ow.dat, bCB, one1, b1Len, lenD, b1List, b1Tuple, itemsOf, itemsL, itemsT, b1Int, b1Abs, b1Str, bIsi, bB, bAnd, bOr, bNot, bAndV, bOrV, bNotV, bChain, bIf, bIx, bMt, isL, mOwn, asDatas, datas, Option.map_some, fAppend, fPop, fPopAt, fRemove, mIndex, bCatL, ownL, bCatT, bRepL, bInI, bRevL, bRevT, bSl, oNone, oSome, bLstRg1, bTupRg1, bDown, bCall, callW, plainB, bCallK, List.getElem?_cons_zero, List.getElem?_cons_succ, List.set_cons_zero, List.set_cons_succ, endsF, intsD_map, b1Sorted, biTup, biSeq, biR1, biR2, b1Repr, isRefD, bStrB, bAsI, bAsB, bAsD, bAsO, bNeE, atI_0, atI_1, dk, gTupB, gTups, bRaise, bDkS, bDkD, bDkP, bDkA, bDkPut, bDkNew, bDkCat]
  refine ⟨by omega, (by show 7 ≤ sizeLine; omega), rfl, trivial, ms, st, _, rfl, hm, (by show 0 < 7; omega), (by show 7 ≤ 1000000; omega), fun ms' st' k d hm' hd => ⟨_, rfl, ?_⟩⟩
  have key : ∃ n : Nat, d = .int n ∧ 1 ≤ n ∧ n ≤ 12 := by
    match k, hd with
    | 0, hd => exact ⟨4, (Option.some.inj hd).symm, by omega, by omega⟩
    | 1, hd => exact ⟨5, (Option.some.inj hd).symm, by omega, by omega⟩
    | 2, hd => exact ⟨8, (Option.some.inj hd).symm, by omega, by omega⟩
    | 3, hd => exact ⟨11, (Option.some.inj hd).symm, by omega, by omega⟩
    | 4, hd => exact ⟨12, (Option.some.inj hd).symm, by omega, by omega⟩
    | 5, hd => exact ⟨12, (Option.some.inj hd).symm, by omega, by omega⟩
    | 6, hd =>
      refine ⟨(1 + t % 12).toNat, ?_, by omega, by omega⟩
      rw [Int.toNat_of_nonneg (by omega)]
      exact (Option.some.inj hd).symm
    | _ + 7, hd => cases hd
  obtain ⟨n, rfl, h1, h2⟩ := key
  exact h _ _ n hm' h1 h2
theorem L_B1 : ∃ b, BSt (LX P w K mg base f cdv A outer s H E0') [] (nth bB4 1) b ∧ ∀ (E : BEnds) ms st (n : Nat) s0 s3 s4 s5 s6 s7 s8 s9 s10 s11, ms.length ≤ 63 → 1 ≤ n → n ≤ 12 → (∀ ms' st' ns, ms'.length ≤ 63 → List.Perm ns (rgI (n + 1)) → E.nx [s0, dk ms' st', .fz (.int n), s3, .fz (.tuple (ns.map PyData.int)), s5, s6, s7, s8, s9, s10, .fz (.int (n * fac (n + 1)))]) →
    b E [s0, dk ms st, .fz (.int n), s3, s4, s5, s6, s7, s8, s9, s10, s11] := by
  refine ⟨_, (bs_par 11 4 rfl sc_law.nd (ba_cons (be_asI (be_callF T__law_many hgd (hr.mono (by decide)) rfl (ba_cons (bv 2) ba_nil))) (ba_cons (be_ct cq_tuple rfl T.n_tuple PyProof.Rows.boot_tuple (ba_cons (be_asO (be_callF T__law_mixed hgd (hr.mono (by decide)) rfl (ba_cons (bv 1) (ba_cons (be_fz (be_listRg1 rfl rfl T.n_list rfl T.n_range (be_add (bv 2) be_int))) ba_nil)))) ba_nil)) ba_nil)) (h := fun ta hta => ps_par rfl sc_law.nd rfl rfl (by decide) rfl rfl hta (by rfl))), fun E ms st n s0 s3 s4 s5 s6 s7 s8 s9 s10 s11 hm h1 h2 h => ?_⟩
  have ek : ((n : Int) + 1).toNat = n + 1 := by omega
  simp only [bSeq, bRet, bAsg, bPar, bPar3, bTup4, gStore, bIfS, bNext, bDrop, bVar, bC, bOp, bUn, bII, bIC, bIB, asInts, asInt, asBool, asStrs, asStr, asView, vw, bCons, bNil, bTup, bLst, bFz, Ow.dat, bCB, one1, b1Len, lenD, b1List, b1Tuple, itemsOf, itemsL, itemsT, b1Int, b1Abs, b1Str, bIsi, bB, bAnd, bOr, bNot, bAndV, bOrV, bNotV, bChain, bIf, bIx, bMt, isL, mOwn, asDatas, datas, Option.map_some, fAppend, fPop, fPopAt, fRemove, mIndex, bCatL, ownL, bCatT, bRepL, bInI, bRevL, bRevT, bSl, oNone, oSome, bLstRg1, bTupRg1, bDown, bCall, callW, plainB, bCallK, List.getElem?_cons_zero, List.getElem?_cons_succ, List.set_cons_zero, List.set_cons_succ, endsF, intsD_map, b1Sorted, biTup, biSeq, biR1, biR2, b1Repr, isRefD, bStrB, bAsI, bAsB, bAsD, bAsO, bNeE, atI_0, atI_1, dk, gTupB, gTups, bRaise, bDkS, bDkD, bDkP, bDkA, bDkPut, bDkNew, bDkCat]
  refine ⟨rfl, trivial, n, rfl, by omega, ?_⟩
  simp only [bSeq, bRet, bAsg, bPar, bPar3, bTup4, gStore, bIfS, bNext, bDrop, bVar, bC, bOp, bUn, bII, bIC, bIB, asInts, asInt, asBool, asStrs, asStr, asView, vw, bCons, bNil, bTup, bLst, bFz, Ow.dat, bCB, one1, b1Len, lenD, b1List, b1Tuple, itemsOf, itemsL, itemsT, b1Int, b1Abs, b1Str, bIsi, bB, bAnd, bOr, bNot, bAndV, bOrV, bNotV, bChain, bIf, bIx, bMt, isL, mOwn, asDatas, datas, Option.map_some, fAppend, fPop, fPopAt, fRemove, mIndex, bCatL, ownL, bCatT, bRepL, bInI, bRevL, bRevT, bSl, oNone, oSome, bLstRg1, bTupRg1, bDown, bCall, callW, plainB, bCallK, List.getElem?_cons_zero, List.getElem?_cons_succ, List.set_cons_zero, List.set_cons_succ, endsF, intsD_map, b1Sorted, biTup, biSeq, biR1, biR2, b1Repr, isRefD, bStrB, bAsI, bAsB, bAsD, bAsO, bNeE, atI_0, atI_1, dk, gTupB, gTups, bRaise, bDkS, bDkD, bDkP, bDkA, bDkPut, bDkNew, bDkCat]
  rw [ek, rangeD_rgI]
  refine ⟨⟨by omega, by omega, by omega, by omega⟩, rfl, trivial, ms, st, _, rfl, hm, by rw [List.length_map, rgI_len]; omega, fun ms' st' es hm' hp => ⟨_, rfl, ?_⟩⟩
  obtain ⟨ns, rfl, hp2⟩ := perm_ints hp
  exact h _ _ ns hm' hp2
end
end K4

set_option maxHeartbeats 400000
/-! k04, part h: the law itself, go on. -/
namespace K4
open PySem L2 BV
theorem good_mem {n : Nat} {ns : List Int} {st : Int} (hp : ns.Perm (rgI (n + 1))) (h0 : 0 ≤ st) (h1 : st < n) : Good n (stdD ns st) := ⟨ns, st, rfl, hp, h0, h1⟩
section
variable {P : Program} {w : World} {K : Fg} {mg : Str → Option Value} {base : Heap} {f : Addr} {fd : FuncData} {cdv : Value} {A : Around} {outer : List Env} {s : Shared} {H : Hp} {E0' : XK}
variable (T : Txt mg) (hgd : A.guards = some []) (hr : Room 4 (A.deeper (PyProof.Rows.envOfC "law" (defScope st_law) s.heap.objs.size f cdv)))
  (T__law_deck : Fn P w K mg base CX0 1 "_law_deck" st__law_deck ["script"] (spB K 1 ph__law_deck))
  (T__law_draw : Fn P w K mg base CX0 1 "_law_draw" st__law_draw ["deck", "many"] (spB K 2 ph__law_draw))
  (T__law_pick : Fn P w K mg base CX0 2 "_law_pick" st__law_pick ["deck", "items"] (spB K 2 ph__law_pick))
  (T__law_mixed : Fn P w K mg base CX0 2 "_law_mixed" st__law_mixed ["deck", "items"] (spB K 2 ph__law_mixed))
  (T__law_many : Fn P w K mg base CX0 1 "_law_many" st__law_many ["n"] (spB K 1 ph__law_many))
  (T__law_rows : Fn P w K mg base CX0 1 "_law_rows" st__law_rows ["n"] (spB K 1 ph__law_rows))
  (T__law_number : Fn P w K mg base CX0 1 "_law_number" st__law_number ["n", "standing"] (spB K 2 ph__law_number))
  (T__law_standing : Fn P w K mg base CX0 1 "_law_standing" st__law_standing ["n", "number"] (spB K 2 ph__law_standing))
  (T__law_seen : Fn P w K mg base CX0 3 "_law_seen" st__law_seen ["n", "value", "is_named"] (spB K 3 ph__law_seen))
  (T__law_is_right : Fn P w K mg base CX0 4 "_law_is_right" st__law_is_right ["n", "standing", "number", "is_named"] (spB K 4 ph__law_is_right))
include T hgd hr T__law_deck T__law_draw T__law_pick T__law_mixed T__law_many T__law_rows T__law_number T__law_standing T__law_seen T__law_is_right
theorem L_B2 : ∃ b, BSt (LX P w K mg base f cdv A outer s H E0') [] (nth bB4 2) b ∧ ∀ (E : BEnds) ms st (n : Nat) ns s0 s3 s5 s6 s7 s8 s9 s10 s11, ms.length ≤ 63 → 1 ≤ n → n ≤ 12 → List.Perm ns (rgI (n + 1)) → (∀ ms' st' l, ms'.length ≤ 63 → l.length = 3 → (∀ d ∈ l, Good n d) → E.nx [s0, dk ms' st', .fz (.int n), s3, .fz (.tuple (ns.map PyData.int)), s5, s6, .ow (.lst l), s8, s9, s10, s11]) →
    b E [s0, dk ms st, .fz (.int n), s3, .fz (.tuple (ns.map PyData.int)), s5, s6, s7, s8, s9, s10, s11] := by
  refine ⟨_, (bs_set 7 sc_law.nd (be_lst (ba_cons (be_tup (ba_cons (bv 4) (ba_cons (be_asI (be_callF T__law_draw hgd (hr.mono (by decide)) rfl (ba_cons (bv 1) (ba_cons (bv 2) ba_nil)))) ba_nil))) (ba_cons (be_tup (ba_cons (be_revT (bv 4)) (ba_cons (be_sub (bv 2) be_int) ba_nil))) (ba_cons (be_tup (ba_cons (be_down rfl rfl T.n_tuple rfl T.n_range (ba_cons (bv 2) (ba_cons (be_neg be_int) (ba_cons (be_neg be_int) ba_nil)))) (ba_cons (be_sub (bv 2) be_int) ba_nil))) ba_nil))))), fun E ms st n ns s0 s3 s5 s6 s7 s8 s9 s10 s11 hm h1 h2 hp h => ?_⟩
  have hb := line_big
  have hd := log_small n (by omega)
  simp only [bSeq, bRet, bAsg, bPar, bPar3, bTup4, gStore, bIfS, bNext, bDrop, bVar, bC, bOp, bUn, bII, bIC, bIB, asInts, asInt, asBool, asStrs, asStr, asView, vw, bCons, bNil, bTup, bLst, bFz, Ow.dat, bCB, one1, b1Len, lenD, b1List, b1Tuple, itemsOf, itemsL, itemsT, b1Int, b1Abs, b1Str, bIsi, bB, bAnd, bOr, bNot, bAndV, bOrV, bNotV, bChain, bIf, bIx, bMt, isL, mOwn, asDatas, datas, Option.map_some, fAppend, fPop, fPopAt, fRemove, mIndex, bCatL, ownL, bCatT, bRepL, bInI, bRevL, bRevT, bSl, oNone, oSome, bLstRg1, bTupRg1, bDown, bCall, callW, plainB, bCallK, List.getElem?_cons_zero, List.getElem?_cons_succ, List.set_cons_zero, List.set_cons_succ, endsF, intsD_map, b1Sorted, biTup, biSeq, biR1, biR2, b1Repr, isRefD, bStrB, bAsI, bAsB, bAsD, bAsO, bNeE, atI_0, atI_1, dk, gTupB, gTups, bRaise, bDkS, bDkD, bDkP, bDkA, bDkPut, bDkNew, bDkCat]
  refine ⟨rfl, trivial, ms, st, _, rfl, hm, hd, fun ms' st' k hm' hk0 hk => ⟨_, rfl, ?_⟩⟩
  simp only [bSeq, bRet, bAsg, bPar, bPar3, bTup4, gStore, bIfS, bNext, bDrop, bVar, bC, bOp, bUn, bII, bIC, bIB, asInts, asInt, asBool, asStrs, asStr, asView, vw, bCons, bNil, bTup, bLst, bFz, Ow.dat, bCB, one1, b1Len, lenD, b1List, b1Tuple, itemsOf, itemsL, itemsT, b1Int, b1Abs, b1Str, bIsi, bB, bAnd, bOr, bNot, bAndV, bOrV, bNotV, bChain, bIf, bIx, bMt, isL, mOwn, asDatas, datas, Option.map_some, fAppend, fPop, fPopAt, fRemove, mIndex, bCatL, ownL, bCatT, bRepL, bInI, bRevL, bRevT, bSl, oNone, oSome, bLstRg1, bTupRg1, bDown, bCall, callW, plainB, bCallK, List.getElem?_cons_zero, List.getElem?_cons_succ, List.set_cons_zero, List.set_cons_succ, endsF, intsD_map, b1Sorted, biTup, biSeq, biR1, biR2, b1Repr, isRefD, bStrB, bAsI, bAsB, bAsD, bAsO, bNeE, atI_0, atI_1, dk, gTupB, gTups, bRaise, bDkS, bDkD, bDkP, bDkA, bDkPut, bDkNew, bDkCat]
  refine ⟨by show 2 ≤ sizeLine; omega, by show 2 ≤ sizeLine; omega, ⟨by first | trivial | omega, by first | trivial | omega, by first | trivial | omega, by first | trivial | omega⟩, by show 2 ≤ sizeLine; omega, by show 3 ≤ sizeLine; omega, ?_⟩
  refine h ms' st' _ hm' rfl ?_
  intro d hd
  have ek : ((n : Int) - -1).toNat = n + 1 := by omega
  rcases List.mem_cons.mp hd with e | hd
  · subst e
    exact good_mem hp hk0 (by omega)
  rcases List.mem_cons.mp hd with e | hd
  · subst e
    rw [← List.map_reverse]
    exact good_mem ((List.reverse_perm ns).trans hp) (by omega) (by omega)
  rcases List.mem_cons.mp hd with e | hd
  · subst e
    rw [ek, down_rg]
    exact good_mem (List.reverse_perm _) (by omega) (by omega)
  · cases hd
theorem L_B3 : ∃ b, BSt (LX P w K mg base f cdv A outer s H E0') [] (nth bB4 3) b ∧ ∀ (E : BEnds) ms st (n : Nat) l s0 s3 s4 s5 s6 s8 s9 s10, ms.length ≤ 63 → 1 ≤ n → n ≤ 12 → l.length = 3 → (∀ d ∈ l, Good n d) → (∀ ms' st' l', ms'.length ≤ 63 → (∀ d ∈ l', Good n d) → E.nx [s0, dk ms' st', .fz (.int n), s3, s4, s5, s6, .ow (.lst l'), s8, s9, s10, .fz (.int (n * fac (n + 1)))]) →
    b E [s0, dk ms st, .fz (.int n), s3, s4, s5, s6, .ow (.lst l), s8, s9, s10, .fz (.int (n * fac (n + 1)))] := by
  refine ⟨_, (bs_expr (be_append (bv 7) (ba_cons (be_asD (be_callF T__law_standing hgd (hr.mono (by decide)) rfl (ba_cons (bv 2) (ba_cons (be_fz (be_asI (be_callF T__law_pick hgd (hr.mono (by decide)) rfl (ba_cons (bv 1) (ba_cons (be_fz (be_lst (ba_cons be_int (ba_cons (be_sub (bv 11) be_int) (ba_cons (be_fdivW (bv 11) be_int) (ba_cons (be_asI (be_callF T__law_draw hgd (hr.mono (by decide)) rfl (ba_cons (bv 1) (ba_cons (bv 11) ba_nil)))) ba_nil)))))) ba_nil))))) ba_nil)))) ba_nil))), fun E ms st n l s0 s3 s4 s5 s6 s8 s9 s10 hm h1 h2 hl hg h => ?_⟩
  have hb := line_big
  have hfac := fac_small n (by omega)
  have hfp := fac_pos (n + 1)
  have hx : (n : Int) * fac (n + 1) ≤ 12 * 6227020800 := Int.mul_le_mul (by omega) hfac (Int.le_of_lt hfp) (by omega)
  have hx0 : 0 < (n : Int) * fac (n + 1) := Int.mul_pos (by omega) hfp
  have hlog : ((n : Int) * fac (n + 1)).natAbs.log2 < 9000 := by
    have : ((n : Int) * fac (n + 1)).natAbs.log2 < 40 := (Nat.log2_lt (by omega)).mpr (by
      have : ((n : Int) * fac (n + 1)).natAbs < 1099511627776 := by omega
      exact this)
    omega
  simp only [bSeq, bRet, bAsg, bPar, bPar3, bTup4, gStore, bIfS, bNext, bDrop, bVar, bC, bOp, bUn, bII, bIC, bIB, asInts, asInt, asBool, asStrs, asStr, asView, vw, bCons, bNil, bTup, bLst, bFz, Ow.dat, bCB, one1, b1Len, lenD, b1List, b1Tuple, itemsOf, itemsL, itemsT, b1Int, b1Abs, b1Str, bIsi, bB, bAnd, bOr, bNot, bAndV, bOrV, bNotV, bChain, bIf, bIx, bMt, isL, mOwn, asDatas, datas, Option.map_some, fAppend, fPop, fPopAt, fRemove, mIndex, bCatL, ownL, bCatT, bRepL, bInI, bRevL, bRevT, bSl, oNone, oSome, bLstRg1, bTupRg1, bDown, bCall, callW, plainB, bCallK, List.getElem?_cons_zero, List.getElem?_cons_succ, List.set_cons_zero, List.set_cons_succ, endsF, intsD_map, b1Sorted, biTup, biSeq, biR1, biR2, b1Repr, isRefD, bStrB, bAsI, bAsB, bAsD, bAsO, bNeE, atI_0, atI_1, dk, gTupB, gTups, bRaise, bDkS, bDkD, bDkP, bDkA, bDkPut, bDkNew, bDkCat]
  refine ⟨rfl, ⟨by omega, by decide +kernel⟩, rfl, trivial, ms, st, _, rfl, hm, hlog, fun ms1 st1 k1 hm1 _ _ => ⟨_, rfl, ?_⟩⟩
  simp only [bSeq, bRet, bAsg, bPar, bPar3, bTup4, gStore, bIfS, bNext, bDrop, bVar, bC, bOp, bUn, bII, bIC, bIB, asInts, asInt, asBool, asStrs, asStr, asView, vw, bCons, bNil, bTup, bLst, bFz, Ow.dat, bCB, one1, b1Len, lenD, b1List, b1Tuple, itemsOf, itemsL, itemsT, b1Int, b1Abs, b1Str, bIsi, bB, bAnd, bOr, bNot, bAndV, bOrV, bNotV, bChain, bIf, bIx, bMt, isL, mOwn, asDatas, datas, Option.map_some, fAppend, fPop, fPopAt, fRemove, mIndex, bCatL, ownL, bCatT, bRepL, bInI, bRevL, bRevT, bSl, oNone, oSome, bLstRg1, bTupRg1, bDown, bCall, callW, plainB, bCallK, List.getElem?_cons_zero, List.getElem?_cons_succ, List.set_cons_zero, List.set_cons_succ, endsF, intsD_map, b1Sorted, biTup, biSeq, biR1, biR2, b1Repr, isRefD, bStrB, bAsI, bAsB, bAsD, bAsO, bNeE, atI_0, atI_1, dk, gTupB, gTups, bRaise, bDkS, bDkD, bDkP, bDkA, bDkPut, bDkNew, bDkCat]
  refine ⟨by show 4 ≤ sizeLine; omega, rfl, trivial, ms1, st1, _, rfl, hm1, (by show 0 < 4; omega), (by show 4 ≤ 1000000; omega), fun ms' st' k d hm' hd => ⟨_, rfl, ?_⟩⟩
  have key : ∃ x : Int, d = .int x := by
    match k, hd with
    | 0, hd => exact ⟨_, (Option.some.inj hd).symm⟩
    | 1, hd => exact ⟨_, (Option.some.inj hd).symm⟩
    | 2, hd => exact ⟨_, (Option.some.inj hd).symm⟩
    | 3, hd => exact ⟨_, (Option.some.inj hd).symm⟩
    | _ + 4, hd => cases hd
  obtain ⟨x, rfl⟩ := key
  simp only [bSeq, bRet, bAsg, bPar, bPar3, bTup4, gStore, bIfS, bNext, bDrop, bVar, bC, bOp, bUn, bII, bIC, bIB, asInts, asInt, asBool, asStrs, asStr, asView, vw, bCons, bNil, bTup, bLst, bFz, Ow.dat, bCB, one1, b1Len, lenD, b1List, b1Tuple, itemsOf, itemsL, itemsT, b1Int, b1Abs, b1Str, bIsi, bB, bAnd, bOr, bNot, bAndV, bOrV, bNotV, bChain, bIf, bIx, bMt, isL, mOwn, asDatas, datas, Option.map_some, fAppend, fPop, fPopAt, fRemove, mIndex, bCatL, ownL, bCatT, bRepL, bInI, bRevL, bRevT, bSl, oNone, oSome, bLstRg1, bTupRg1, bDown, bCall, callW, plainB, bCallK, List.getElem?_cons_zero, List.getElem?_cons_succ, List.set_cons_zero, List.set_cons_succ, endsF, intsD_map, b1Sorted, biTup, biSeq, biR1, biR2, b1Repr, isRefD, bStrB, bAsI, bAsB, bAsD, bAsO, bNeE, atI_0, atI_1, dk, gTupB, gTups, bRaise, bDkS, bDkD, bDkP, bDkA, bDkPut, bDkNew, bDkCat]
  refine ⟨rfl, trivial, n, x, rfl, h1, by omega, fun ns hp => ?_⟩
  simp only [bSeq, bRet, bAsg, bPar, bPar3, bTup4, gStore, bIfS, bNext, bDrop, bVar, bC, bOp, bUn, bII, bIC, bIB, asInts, asInt, asBool, asStrs, asStr, asView, vw, bCons, bNil, bTup, bLst, bFz, Ow.dat, bCB, one1, b1Len, lenD, b1List, b1Tuple, itemsOf, itemsL, itemsT, b1Int, b1Abs, b1Str, bIsi, bB, bAnd, bOr, bNot, bAndV, bOrV, bNotV, bChain, bIf, bIx, bMt, isL, mOwn, asDatas, datas, Option.map_some, fAppend, fPop, fPopAt, fRemove, mIndex, bCatL, ownL, bCatT, bRepL, bInI, bRevL, bRevT, bSl, oNone, oSome, bLstRg1, bTupRg1, bDown, bCall, callW, plainB, bCallK, List.getElem?_cons_zero, List.getElem?_cons_succ, List.set_cons_zero, List.set_cons_succ, endsF, intsD_map, b1Sorted, biTup, biSeq, biR1, biR2, b1Repr, isRefD, bStrB, bAsI, bAsB, bAsD, bAsO, bNeE, atI_0, atI_1, dk, gTupB, gTups, bRaise, bDkS, bDkD, bDkP, bDkA, bDkPut, bDkNew, bDkCat]
  rw [if_pos (by omega)]
  simp only [bSeq, bRet, bAsg, bPar, bPar3, bTup4, gStore, bIfS, bNext, bDrop, bVar, bC, bOp, bUn, bII, bIC, bIB, asInts, asInt, asBool, asStrs, asStr, asView, vw, bCons, bNil, bTup, bLst, bFz, Ow.dat, bCB, one1, b1Len, lenD, b1List, b1Tuple, itemsOf, itemsL, itemsT, b1Int, b1Abs, b1Str, bIsi, bB, bAnd, bOr, bNot, bAndV, bOrV, bNotV, bChain, bIf, bIx, bMt, isL, mOwn, asDatas, datas, Option.map_some, fAppend, fPop, fPopAt, fRemove, mIndex, bCatL, ownL, bCatT, bRepL, bInI, bRevL, bRevT, bSl, oNone, oSome, bLstRg1, bTupRg1, bDown, bCall, callW, plainB, bCallK, List.getElem?_cons_zero, List.getElem?_cons_succ, List.set_cons_zero, List.set_cons_succ, endsF, intsD_map, b1Sorted, biTup, biSeq, biR1, biR2, b1Repr, isRefD, bStrB, bAsI, bAsB, bAsD, bAsO, bNeE, atI_0, atI_1, dk, gTupB, gTups, bRaise, bDkS, bDkD, bDkP, bDkA, bDkPut, bDkNew, bDkCat]
  refine h ms' st' _ hm' fun d hd => ?_
  rcases List.mem_append.mp hd with hd | hd
  · exact hg d hd
  · rcases List.mem_cons.mp hd with e | hd
    · subst e
      exact good_mem hp (Int.emod_nonneg _ (by omega)) (Int.emod_lt_of_pos _ (by omega))
    · cases hd
theorem L_B4 : ∃ b, BSt (LX P w K mg base f cdv A outer s H E0') [] (nth bB4 4) b ∧ ∀ (E : BEnds) ms st (n : Nat) (t : Int) l s0 s3 s4 s6 s8 s9 s10 s11, 1 ≤ n → n ≤ 12 → (∀ d ∈ l, Good n d) → (∀ s7 s8, E.nx [s0, dk ms st, .fz (.int n), s3, s4, .fz (.int t), s6, s7, s8, s9, s10, s11]) →
    b E [s0, dk ms st, .fz (.int n), s3, s4, .fz (.int t), s6, .ow (.lst l), s8, s9, s10, s11] := by
  refine ⟨_, (bs_for PassesOwn.never rfl (bi_list (be_fz (bv 7))) (bg_name 8 sc_law.nd) (bss_one (bs_if (bt_not (bt_val (be_asB (be_callF T__law_is_right hgd (hr.mono (by decide)) rfl (ba_cons (bv 2) (ba_cons (bv 8) (ba_cons (be_asI (be_callF T__law_number hgd (hr.mono (by decide)) rfl (ba_cons (bv 2) (ba_cons (bv 8) ba_nil)))) (ba_cons (be_cmp (cr_eq hr.units) (bv 5) be_int) ba_nil)))))))) (bss_one (bs_ret be_bl)) bss_nil))), fun E ms st n t l s0 s3 s4 s6 s8 s9 s10 s11 h1 h2 hg h => ?_⟩
  unfold bFor
  simp only [bSeq, bRet, bAsg, bPar, bPar3, bTup4, gStore, bIfS, bNext, bDrop, bVar, bC, bOp, bUn, bII, bIC, bIB, asInts, asInt, asBool, asStrs, asStr, asView, vw, bCons, bNil, bTup, bLst, bFz, Ow.dat, bCB, one1, b1Len, lenD, b1List, b1Tuple, itemsOf, itemsL, itemsT, b1Int, b1Abs, b1Str, bIsi, bB, bAnd, bOr, bNot, bAndV, bOrV, bNotV, bChain, bIf, bIx, bMt, isL, mOwn, asDatas, datas, Option.map_some, fAppend, fPop, fPopAt, fRemove, mIndex, bCatL, ownL, bCatT, bRepL, bInI, bRevL, bRevT, bSl, oNone, oSome, bLstRg1, bTupRg1, bDown, bCall, callW, plainB, bCallK, List.getElem?_cons_zero, List.getElem?_cons_succ, List.set_cons_zero, List.set_cons_succ, endsF, intsD_map, b1Sorted, biTup, biSeq, biR1, biR2, b1Repr, isRefD, bStrB, bAsI, bAsB, bAsD, bAsO, bNeE, atI_0, atI_1, dk, gTupB, gTups, bRaise, bDkS, bDkD, bDkP, bDkA, bDkPut, bDkNew, bDkCat]
  refine ⟨fun i e => ∃ s8, e = [s0, dk ms st, .fz (.int n), s3, s4, .fz (.int t), s6, .fz (.list l), s8, s9, s10, s11], ⟨_, rfl⟩, ?_, ?_⟩
  · rintro i d e hi ⟨s8, rfl⟩
    obtain ⟨ns, st2, rfl, hp, q0, q1⟩ := hg d (List.mem_of_getElem? hi)
    simp only [bSeq, bRet, bAsg, bPar, bPar3, bTup4, gStore, bIfS, bNext, bDrop, bVar, bC, bOp, bUn, bII, bIC, bIB, asInts, asInt, asBool, asStrs, asStr, asView, vw, bCons, bNil, bTup, bLst, bFz, Ow.dat, bCB, one1, b1Len, lenD, b1List, b1Tuple, itemsOf, itemsL, itemsT, b1Int, b1Abs, b1Str, bIsi, bB, bAnd, bOr, bNot, bAndV, bOrV, bNotV, bChain, bIf, bIx, bMt, isL, mOwn, asDatas, datas, Option.map_some, fAppend, fPop, fPopAt, fRemove, mIndex, bCatL, ownL, bCatT, bRepL, bInI, bRevL, bRevT, bSl, oNone, oSome, bLstRg1, bTupRg1, bDown, bCall, callW, plainB, bCallK, List.getElem?_cons_zero, List.getElem?_cons_succ, List.set_cons_zero, List.set_cons_succ, endsF, intsD_map, b1Sorted, biTup, biSeq, biR1, biR2, b1Repr, isRefD, bStrB, bAsI, bAsB, bAsD, bAsO, bNeE, atI_0, atI_1, dk, gTupB, gTups, bRaise, bDkS, bDkD, bDkP, bDkA, bDkPut, bDkNew, bDkCat]
    refine ⟨rfl, trivial, n, st2, ns, rfl, hp, by omega, ?_⟩
    simp only [bSeq, bRet, bAsg, bPar, bPar3, bTup4, gStore, bIfS, bNext, bDrop, bVar, bC, bOp, bUn, bII, bIC, bIB, asInts, asInt, asBool, asStrs, asStr, asView, vw, bCons, bNil, bTup, bLst, bFz, Ow.dat, bCB, one1, b1Len, lenD, b1List, b1Tuple, itemsOf, itemsL, itemsT, b1Int, b1Abs, b1Str, bIsi, bB, bAnd, bOr, bNot, bAndV, bOrV, bNotV, bChain, bIf, bIx, bMt, isL, mOwn, asDatas, datas, Option.map_some, fAppend, fPop, fPopAt, fRemove, mIndex, bCatL, ownL, bCatT, bRepL, bInI, bRevL, bRevT, bSl, oNone, oSome, bLstRg1, bTupRg1, bDown, bCall, callW, plainB, bCallK, List.getElem?_cons_zero, List.getElem?_cons_succ, List.set_cons_zero, List.set_cons_succ, endsF, intsD_map, b1Sorted, biTup, biSeq, biR1, biR2, b1Repr, isRefD, bStrB, bAsI, bAsB, bAsD, bAsO, bNeE, atI_0, atI_1, dk, gTupB, gTups, bRaise, bDkS, bDkD, bDkP, bDkA, bDkPut, bDkNew, bDkCat]
    refine ⟨⟨rfl, rfl⟩, rfl, rfl, n, ns, st2, _, rfl, hp, h1, h2, q0, q1, ?_⟩
    simp only [bSeq, bRet, bAsg, bPar, bPar3, bTup4, gStore, bIfS, bNext, bDrop, bVar, bC, bOp, bUn, bII, bIC, bIB, asInts, asInt, asBool, asStrs, asStr, asView, vw, bCons, bNil, bTup, bLst, bFz, Ow.dat, bCB, one1, b1Len, lenD, b1List, b1Tuple, itemsOf, itemsL, itemsT, b1Int, b1Abs, b1Str, bIsi, bB, bAnd, bOr, bNot, bAndV, bOrV, bNotV, bChain, bIf, bIx, bMt, isL, mOwn, asDatas, datas, Option.map_some, fAppend, fPop, fPopAt, fRemove, mIndex, bCatL, ownL, bCatT, bRepL, bInI, bRevL, bRevT, bSl, oNone, oSome, bLstRg1, bTupRg1, bDown, bCall, callW, plainB, bCallK, List.getElem?_cons_zero, List.getElem?_cons_succ, List.set_cons_zero, List.set_cons_succ, endsF, intsD_map, b1Sorted, biTup, biSeq, biR1, biR2, b1Repr, isRefD, bStrB, bAsI, bAsB, bAsD, bAsO, bNeE, atI_0, atI_1, dk, gTupB, gTups, bRaise, bDkS, bDkD, bDkP, bDkA, bDkPut, bDkNew, bDkCat]
    exact ⟨_, rfl⟩
  · rintro e ⟨s8, rfl⟩
    exact h _ _
end
end K4

set_option maxHeartbeats 400000
/-! k04, part i: the law's end. -/
namespace K4
open PySem L2 BV
theorem seen_great {n : Nat} {v : Int} (hn : 1 ≤ n) (h : (n : Int) * fac (n + 1) ≤ v) : seenL n (.int v) = refusal := by
  show (if v < 0 then refusal else if 0 < (dg (n + 1) (v / n)).2 then refusal else _) = _
  rw [if_pos (too_great hn h)]
  split <;> rfl
theorem seen_low {n : Nat} {v : Int} (h : v < 0) : seenL n (.int v) = refusal := if_pos h
def rowsOk (n : Nat) : Bool := (rowsN (n + 1) (n + 1)).zipIdx.all fun p => p.1.isPerm (rgI (n + 1)) && rank (rgI (n + 1)) p.1 == (p.2 : Int)
theorem rowsOk_all : ∀ n, n < 5 → rowsOk n = true := by decide +kernel
theorem row_fact {n i : Nat} {r : List Int} (hn : n < 5) (h : (rowsN (n + 1) (n + 1))[i]? = some r) : r.Perm (rgI (n + 1)) ∧ rank (rgI (n + 1)) r = i := by
  have h1 := rowsOk_all n hn
  unfold rowsOk at h1
  have h2 := List.all_eq_true.mp h1 (r, i) (List.mk_mem_zipIdx_iff_getElem?.mpr h)
  simp only [Bool.and_eq_true, beq_iff_eq] at h2
  exact ⟨List.isPerm_iff.mp h2.1, h2.2⟩
theorem cut_mem {ds : List PyData} {lo hi : Option Int} {d : PyData} (h : d ∈ cutD ds lo hi) : d ∈ ds := List.mem_of_mem_drop (List.mem_of_mem_take h)
section
variable {P : Program} {w : World} {K : Fg} {mg : Str → Option Value} {base : Heap} {f : Addr} {fd : FuncData} {cdv : Value} {A : Around} {outer : List Env} {s : Shared} {H : Hp} {E0' : XK}
variable (T : Txt mg) (hgd : A.guards = some []) (hr : Room 4 (A.deeper (PyProof.Rows.envOfC "law" (defScope st_law) s.heap.objs.size f cdv)))
  (T__law_deck : Fn P w K mg base CX0 1 "_law_deck" st__law_deck ["script"] (spB K 1 ph__law_deck))
  (T__law_draw : Fn P w K mg base CX0 1 "_law_draw" st__law_draw ["deck", "many"] (spB K 2 ph__law_draw))
  (T__law_pick : Fn P w K mg base CX0 2 "_law_pick" st__law_pick ["deck", "items"] (spB K 2 ph__law_pick))
  (T__law_mixed : Fn P w K mg base CX0 2 "_law_mixed" st__law_mixed ["deck", "items"] (spB K 2 ph__law_mixed))
  (T__law_many : Fn P w K mg base CX0 1 "_law_many" st__law_many ["n"] (spB K 1 ph__law_many))
  (T__law_rows : Fn P w K mg base CX0 1 "_law_rows" st__law_rows ["n"] (spB K 1 ph__law_rows))
  (T__law_number : Fn P w K mg base CX0 1 "_law_number" st__law_number ["n", "standing"] (spB K 2 ph__law_number))
  (T__law_standing : Fn P w K mg base CX0 1 "_law_standing" st__law_standing ["n", "number"] (spB K 2 ph__law_standing))
  (T__law_seen : Fn P w K mg base CX0 3 "_law_seen" st__law_seen ["n", "value", "is_named"] (spB K 3 ph__law_seen))
  (T__law_is_right : Fn P w K mg base CX0 4 "_law_is_right" st__law_is_right ["n", "standing", "number", "is_named"] (spB K 4 ph__law_is_right))
include T hgd hr T__law_deck T__law_draw T__law_pick T__law_mixed T__law_many T__law_rows T__law_number T__law_standing T__law_seen T__law_is_right
theorem L_B5 : ∃ b, BSt (LX P w K mg base f cdv A outer s H E0') [] (nth bB4 5) b ∧ ∀ (E : BEnds) d1 (n : Nat) s0 s3 s4 s5 s6 s7 s8 s9 s10, 1 ≤ n → n ≤ 12 → (∀ l, l.length = 13 → (∀ d ∈ l, seenL n d = refusal) → E.nx [s0, d1, .fz (.int n), s3, s4, s5, s6, s7, s8, .fz (.list l), s10, .fz (.int (n * fac (n + 1)))]) →
    b E [s0, d1, .fz (.int n), s3, s4, s5, s6, s7, s8, s9, s10, .fz (.int (n * fac (n + 1)))] := by
  refine ⟨_, (bs_set 9 sc_law.nd (be_fz (be_lst (ba_cons (bv 11) (ba_cons (be_neg be_int) (ba_cons (be_add (bv 11) be_int) (ba_cons be_bl (ba_cons be_bl (ba_cons be_non (ba_cons (be_ct cq_str rfl T.n_str PyProof.Rows.boot_str (ba_cons (be_sub (bv 11) be_int) ba_nil)) (ba_cons (be_tup (ba_cons be_int ba_nil)) (ba_cons (be_fz (be_lst ba_nil)) (ba_cons (be_fz be_dict0) (ba_cons (be_pow be_int be_int) (ba_cons (be_neg (bv 11)) (ba_cons (be_tup (ba_cons (be_tup (ba_cons be_int (ba_cons be_int ba_nil))) (ba_cons be_int ba_nil))) ba_nil)))))))))))))))), fun E d1 n s0 s3 s4 s5 s6 s7 s8 s9 s10 h1 h2 h => ?_⟩
  have hb := line_big
  have hfac := fac_small n (by omega)
  have hfp := fac_pos (n + 1)
  have hx : (n : Int) * fac (n + 1) ≤ 12 * 6227020800 := Int.mul_le_mul (by omega) hfac (Int.le_of_lt hfp) (by omega)
  have hx0 : 0 < (n : Int) * fac (n + 1) := Int.mul_pos (by omega) hfp
  have hlog : ((n : Int) * fac (n + 1) - 1).natAbs.log2 < 1920 := by
    by_cases hz : ((n : Int) * fac (n + 1) - 1).natAbs = 0
    · rw [hz]
      decide +kernel
    · have : ((n : Int) * fac (n + 1) - 1).natAbs.log2 < 40 := (Nat.log2_lt hz).mpr (by
        have : ((n : Int) * fac (n + 1) - 1).natAbs < 1099511627776 := by omega
        exact this)
      omega
  have e30 : (10 : Int) ^ Int.toNat 30 = 1000000000000000000000000000000 := by decide +kernel
  simp only [bSeq, bRet, bAsg, bPar, bPar3, bTup4, gStore, bIfS, bNext, bDrop, bVar, bC, bOp, bUn, bII, bIC, bIB, asInts, asInt, asBool, asStrs, asStr, asView, vw, bCons, bNil, bTup, bLst, bFz, Ow.dat, bCB, one1, b1Len, lenD, b1List, b1Tuple, itemsOf, itemsL, itemsT, b1Int, b1Abs, b1Str, bIsi, bB, bAnd, bOr, bNot, bAndV, bOrV, bNotV, bChain, bIf, bIx, bMt, isL, mOwn, asDatas, datas, Option.map_some, fAppend, fPop, fPopAt, fRemove, mIndex, bCatL, ownL, bCatT, bRepL, bInI, bRevL, bRevT, bSl, oNone, oSome, bLstRg1, bTupRg1, bDown, bCall, callW, plainB, bCallK, List.getElem?_cons_zero, List.getElem?_cons_succ, List.set_cons_zero, List.set_cons_succ, endsF, intsD_map, b1Sorted, biTup, biSeq, biR1, biR2, b1Repr, isRefD, bStrB, bAsI, bAsB, bAsD, bAsO, bNeE, atI_0, atI_1, dk, gTupB, gTups, bRaise, bDkS, bDkD, bDkP, bDkA, bDkPut, bDkNew, bDkCat]
  refine ⟨hlog, by show 1 ≤ sizeLine; omega, Nat.zero_le _, ⟨by omega, by omega, by decide⟩, by show 2 ≤ sizeLine; omega, by show 2 ≤ sizeLine; omega, by show 13 ≤ sizeLine; omega, ?_⟩
  refine h _ rfl fun d hd => ?_
  simp only [List.mem_cons, List.not_mem_nil, or_false] at hd
  rcases hd with rfl | rfl | rfl | rfl | rfl | rfl | rfl | rfl | rfl | rfl | rfl | rfl | rfl
  · exact seen_great h1 (by omega)
  · exact seen_low (by omega)
  · exact seen_great h1 (by omega)
  · rfl
  · rfl
  · rfl
  · rfl
  · rfl
  · rfl
  · rfl
  · exact seen_great h1 (by rw [e30]; omega)
  · exact seen_low (by omega)
  · rfl
theorem L_B6 : ∃ b, BSt (LX P w K mg base f cdv A outer s H E0') [] (nth bB4 6) b ∧ ∀ (E : BEnds) ms st (n : Nat) l s0 s3 s4 s5 s6 s7 s8 s10 s11, ms.length ≤ 63 → 1 ≤ n → n ≤ 12 → l.length = 13 → (∀ d ∈ l, seenL n d = refusal) → (∀ ms' st' s10, ms'.length ≤ 63 → E.nx [s0, dk ms' st', .fz (.int n), s3, s4, s5, s6, s7, s8, .fz (.list l), s10, s11]) →
    b E [s0, dk ms st, .fz (.int n), s3, s4, s5, s6, s7, s8, .fz (.list l), s10, s11] := by
  refine ⟨_, (bs_for PassesOwn.never rfl (bi_list (be_fz (be_sl (be_asO (be_callF T__law_mixed hgd (hr.mono (by decide)) rfl (ba_cons (bv 1) (ba_cons (be_fz (bv 9)) ba_nil)))) bo_none (bo_some be_int)))) (bg_name 10 sc_law.nd) (bss_one (bs_if (bt_cmp cr_neS (be_cb (cq_repr hgd (hu65 hr)) rfl T.n_repr PyProof.Rows.boot_repr (ba_cons (be_asO (be_callF T__law_seen hgd (hr.mono (by decide)) rfl (ba_cons (bv 2) (ba_cons (be_fz (bv 10)) (ba_cons be_bl ba_nil))))) ba_nil)) (be_cb (cq_repr hgd (hu65 hr)) rfl T.n_repr PyProof.Rows.boot_repr (ba_cons (be_lst (ba_cons be_str (ba_cons be_bl ba_nil))) ba_nil))) (bss_one (bs_ret be_bl)) bss_nil))), fun E ms st n l s0 s3 s4 s5 s6 s7 s8 s10 s11 hm h1 h2 hl hg h => ?_⟩
  have hb := line_big
  have hW : Sh (.str "unfit") 40 0 := ⟨by decide +kernel, rfl, by decide +kernel, Nat.le_refl _, by decide +kernel⟩
  have x2 : Shows (.list refusal) := (sh_list (two_mem hW (sh_bool.mono (by omega) (by omega)))).shows (by simp) (by omega)
  unfold bFor
  simp only [bSeq, bRet, bAsg, bPar, bPar3, bTup4, gStore, bIfS, bNext, bDrop, bVar, bC, bOp, bUn, bII, bIC, bIB, asInts, asInt, asBool, asStrs, asStr, asView, vw, bCons, bNil, bTup, bLst, bFz, Ow.dat, bCB, one1, b1Len, lenD, b1List, b1Tuple, itemsOf, itemsL, itemsT, b1Int, b1Abs, b1Str, bIsi, bB, bAnd, bOr, bNot, bAndV, bOrV, bNotV, bChain, bIf, bIx, bMt, isL, mOwn, asDatas, datas, Option.map_some, fAppend, fPop, fPopAt, fRemove, mIndex, bCatL, ownL, bCatT, bRepL, bInI, bRevL, bRevT, bSl, oNone, oSome, bLstRg1, bTupRg1, bDown, bCall, callW, plainB, bCallK, List.getElem?_cons_zero, List.getElem?_cons_succ, List.set_cons_zero, List.set_cons_succ, endsF, intsD_map, b1Sorted, biTup, biSeq, biR1, biR2, b1Repr, isRefD, bStrB, bAsI, bAsB, bAsD, bAsO, bNeE, atI_0, atI_1, dk, gTupB, gTups, bRaise, bDkS, bDkD, bDkP, bDkA, bDkPut, bDkNew, bDkCat]
  refine ⟨rfl, trivial, ms, st, l, rfl, hm, by omega, fun ms' st' es hm' hp => ⟨_, rfl, ?_⟩⟩
  simp only [bSeq, bRet, bAsg, bPar, bPar3, bTup4, gStore, bIfS, bNext, bDrop, bVar, bC, bOp, bUn, bII, bIC, bIB, asInts, asInt, asBool, asStrs, asStr, asView, vw, bCons, bNil, bTup, bLst, bFz, Ow.dat, bCB, one1, b1Len, lenD, b1List, b1Tuple, itemsOf, itemsL, itemsT, b1Int, b1Abs, b1Str, bIsi, bB, bAnd, bOr, bNot, bAndV, bOrV, bNotV, bChain, bIf, bIx, bMt, isL, mOwn, asDatas, datas, Option.map_some, fAppend, fPop, fPopAt, fRemove, mIndex, bCatL, ownL, bCatT, bRepL, bInI, bRevL, bRevT, bSl, oNone, oSome, bLstRg1, bTupRg1, bDown, bCall, callW, plainB, bCallK, List.getElem?_cons_zero, List.getElem?_cons_succ, List.set_cons_zero, List.set_cons_succ, endsF, intsD_map, b1Sorted, biTup, biSeq, biR1, biR2, b1Repr, isRefD, bStrB, bAsI, bAsB, bAsD, bAsO, bNeE, atI_0, atI_1, dk, gTupB, gTups, bRaise, bDkS, bDkD, bDkP, bDkA, bDkPut, bDkNew, bDkCat]
  refine ⟨fun i e => ∃ s10, e = [s0, dk ms' st', .fz (.int n), s3, s4, s5, s6, s7, s8, .fz (.list l), s10, s11], ⟨_, rfl⟩, ?_, ?_⟩
  · rintro i d e hi ⟨s10, rfl⟩
    have hd := hg d (hp.subset (cut_mem (List.mem_of_getElem? hi)))
    simp only [bSeq, bRet, bAsg, bPar, bPar3, bTup4, gStore, bIfS, bNext, bDrop, bVar, bC, bOp, bUn, bII, bIC, bIB, asInts, asInt, asBool, asStrs, asStr, asView, vw, bCons, bNil, bTup, bLst, bFz, Ow.dat, bCB, one1, b1Len, lenD, b1List, b1Tuple, itemsOf, itemsL, itemsT, b1Int, b1Abs, b1Str, bIsi, bB, bAnd, bOr, bNot, bAndV, bOrV, bNotV, bChain, bIf, bIx, bMt, isL, mOwn, asDatas, datas, Option.map_some, fAppend, fPop, fPopAt, fRemove, mIndex, bCatL, ownL, bCatT, bRepL, bInI, bRevL, bRevT, bSl, oNone, oSome, bLstRg1, bTupRg1, bDown, bCall, callW, plainB, bCallK, List.getElem?_cons_zero, List.getElem?_cons_succ, List.set_cons_zero, List.set_cons_succ, endsF, intsD_map, b1Sorted, biTup, biSeq, biR1, biR2, b1Repr, isRefD, bStrB, bAsI, bAsB, bAsD, bAsO, bNeE, atI_0, atI_1, dk, gTupB, gTups, bRaise, bDkS, bDkD, bDkP, bDkA, bDkPut, bDkNew, bDkCat]
    refine ⟨rfl, trivial, n, d, false, rfl, h1, by omega, ?_⟩
    rw [hd]
    simp only [bSeq, bRet, bAsg, bPar, bPar3, bTup4, gStore, bIfS, bNext, bDrop, bVar, bC, bOp, bUn, bII, bIC, bIB, asInts, asInt, asBool, asStrs, asStr, asView, vw, bCons, bNil, bTup, bLst, bFz, Ow.dat, bCB, one1, b1Len, lenD, b1List, b1Tuple, itemsOf, itemsL, itemsT, b1Int, b1Abs, b1Str, bIsi, bB, bAnd, bOr, bNot, bAndV, bOrV, bNotV, bChain, bIf, bIx, bMt, isL, mOwn, asDatas, datas, Option.map_some, fAppend, fPop, fPopAt, fRemove, mIndex, bCatL, ownL, bCatT, bRepL, bInI, bRevL, bRevT, bSl, oNone, oSome, bLstRg1, bTupRg1, bDown, bCall, callW, plainB, bCallK, List.getElem?_cons_zero, List.getElem?_cons_succ, List.set_cons_zero, List.set_cons_succ, endsF, intsD_map, b1Sorted, biTup, biSeq, biR1, biR2, b1Repr, isRefD, bStrB, bAsI, bAsB, bAsD, bAsO, bNeE, atI_0, atI_1, dk, gTupB, gTups, bRaise, bDkS, bDkD, bDkP, bDkA, bDkPut, bDkNew, bDkCat]
    refine ⟨⟨trivial, x2⟩, by show 2 ≤ sizeLine; omega, ⟨trivial, x2⟩, ifB (fun c => ?_) (fun _ => ⟨_, rfl⟩)⟩
    have c' : ((PyData.list refusal).shown != (PyData.list refusal).shown) = true := c
    simp at c'
  · rintro e ⟨s10, rfl⟩
    exact h _ _ _ hm'
theorem L_A : ∃ b, BSt (LX P w K mg base f cdv A outer s H E0') [] (nth (defBody st_law) 3) b ∧ ∀ (E : BEnds) d1 (n : Nat) s0 s4 s5 s6 s7 s8 s9 s10 s11, 1 ≤ n → n ≤ 4 → (∀ s3 s4 s6, E.nx [s0, d1, .fz (.int n), s3, s4, s5, s6, s7, s8, s9, s10, s11]) →
    b E [s0, d1, .fz (.int n), .fz (.int 0), s4, s5, s6, s7, s8, s9, s10, s11] := by
  refine ⟨_, (bs_for PassesOwn.never rfl (bi_list (be_fz (be_asD (be_callF T__law_rows hgd (hr.mono (by decide)) rfl (ba_cons (bv 2) ba_nil))))) (bg_name 4 sc_law.nd) (bss_one (bs_for PassesOwn.never rfl (bi_range1 rfl T.n_range (ba_cons (bv 2) ba_nil)) (bg_name 6 sc_law.nd) (bss_cons (bs_if (bt_not (bt_val (be_asB (be_callF T__law_is_right hgd (hr.mono (by decide)) rfl (ba_cons (bv 2) (ba_cons (be_tup (ba_cons (bv 4) (ba_cons (bv 6) ba_nil))) (ba_cons (bv 3) (ba_cons (be_cmp (cr_eq hr.units) (bv 3) be_int) ba_nil)))))))) (bss_one (bs_ret be_bl)) bss_nil)
      (bss_one (bs_set 3 sc_law.nd (be_add (bv 3) be_int))))))), fun E d1 n s0 s4 s5 s6 s7 s8 s9 s10 s11 h1 h2 h => ?_⟩
  have hb := line_big
  have en : ((n : Nat) : Int).toNat = n := by omega
  unfold bFor
  simp only [bSeq, bRet, bAsg, bPar, bPar3, bTup4, gStore, bIfS, bNext, bDrop, bVar, bC, bOp, bUn, bII, bIC, bIB, asInts, asInt, asBool, asStrs, asStr, asView, vw, bCons, bNil, bTup, bLst, bFz, Ow.dat, bCB, one1, b1Len, lenD, b1List, b1Tuple, itemsOf, itemsL, itemsT, b1Int, b1Abs, b1Str, bIsi, bB, bAnd, bOr, bNot, bAndV, bOrV, bNotV, bChain, bIf, bIx, bMt, isL, mOwn, asDatas, datas, Option.map_some, fAppend, fPop, fPopAt, fRemove, mIndex, bCatL, ownL, bCatT, bRepL, bInI, bRevL, bRevT, bSl, oNone, oSome, bLstRg1, bTupRg1, bDown, bCall, callW, plainB, bCallK, List.getElem?_cons_zero, List.getElem?_cons_succ, List.set_cons_zero, List.set_cons_succ, endsF, intsD_map, b1Sorted, biTup, biSeq, biR1, biR2, b1Repr, isRefD, bStrB, bAsI, bAsB, bAsD, bAsO, bNeE, atI_0, atI_1, dk, gTupB, gTups, bRaise, bDkS, bDkD, bDkP, bDkA, bDkPut, bDkNew, bDkCat]
  refine ⟨rfl, trivial, n, rfl, h2, ?_⟩
  simp only [bSeq, bRet, bAsg, bPar, bPar3, bTup4, gStore, bIfS, bNext, bDrop, bVar, bC, bOp, bUn, bII, bIC, bIB, asInts, asInt, asBool, asStrs, asStr, asView, vw, bCons, bNil, bTup, bLst, bFz, Ow.dat, bCB, one1, b1Len, lenD, b1List, b1Tuple, itemsOf, itemsL, itemsT, b1Int, b1Abs, b1Str, bIsi, bB, bAnd, bOr, bNot, bAndV, bOrV, bNotV, bChain, bIf, bIx, bMt, isL, mOwn, asDatas, datas, Option.map_some, fAppend, fPop, fPopAt, fRemove, mIndex, bCatL, ownL, bCatT, bRepL, bInI, bRevL, bRevT, bSl, oNone, oSome, bLstRg1, bTupRg1, bDown, bCall, callW, plainB, bCallK, List.getElem?_cons_zero, List.getElem?_cons_succ, List.set_cons_zero, List.set_cons_succ, endsF, intsD_map, b1Sorted, biTup, biSeq, biR1, biR2, b1Repr, isRefD, bStrB, bAsI, bAsB, bAsD, bAsO, bNeE, atI_0, atI_1, dk, gTupB, gTups, bRaise, bDkS, bDkD, bDkP, bDkA, bDkPut, bDkNew, bDkCat]
  refine ⟨fun i e => ∃ s4 s6, e = [s0, d1, .fz (.int n), .fz (.int ((i : Int) * n)), s4, s5, s6, s7, s8, s9, s10, s11], ⟨s4, s6, by simp⟩, ?_, ?_⟩
  · rintro i d e hi ⟨s4, s6, rfl⟩
    obtain ⟨r, hr1, rfl⟩ := get_rows hi
    obtain ⟨rp, rk⟩ := row_fact (by omega) hr1
    simp only [bSeq, bRet, bAsg, bPar, bPar3, bTup4, gStore, bIfS, bNext, bDrop, bVar, bC, bOp, bUn, bII, bIC, bIB, asInts, asInt, asBool, asStrs, asStr, asView, vw, bCons, bNil, bTup, bLst, bFz, Ow.dat, bCB, one1, b1Len, lenD, b1List, b1Tuple, itemsOf, itemsL, itemsT, b1Int, b1Abs, b1Str, bIsi, bB, bAnd, bOr, bNot, bAndV, bOrV, bNotV, bChain, bIf, bIx, bMt, isL, mOwn, asDatas, datas, Option.map_some, fAppend, fPop, fPopAt, fRemove, mIndex, bCatL, ownL, bCatT, bRepL, bInI, bRevL, bRevT, bSl, oNone, oSome, bLstRg1, bTupRg1, bDown, bCall, callW, plainB, bCallK, List.getElem?_cons_zero, List.getElem?_cons_succ, List.set_cons_zero, List.set_cons_succ, endsF, intsD_map, b1Sorted, biTup, biSeq, biR1, biR2, b1Repr, isRefD, bStrB, bAsI, bAsB, bAsD, bAsO, bNeE, atI_0, atI_1, dk, gTupB, gTups, bRaise, bDkS, bDkD, bDkP, bDkA, bDkPut, bDkNew, bDkCat]
    rw [en]
    refine ⟨⟨by omega, by omega⟩, fun j e => ∃ s6, e = [s0, d1, .fz (.int n), .fz (.int ((i : Int) * n + j)), .fz (rowD r), s5, s6, s7, s8, s9, s10, s11], ⟨s6, by simp⟩, ?_, ?_⟩
    · rintro j d e hj ⟨s6, rfl⟩
      obtain ⟨hj1, rfl⟩ := range_get hj
      simp only [bSeq, bRet, bAsg, bPar, bPar3, bTup4, gStore, bIfS, bNext, bDrop, bVar, bC, bOp, bUn, bII, bIC, bIB, asInts, asInt, asBool, asStrs, asStr, asView, vw, bCons, bNil, bTup, bLst, bFz, Ow.dat, bCB, one1, b1Len, lenD, b1List, b1Tuple, itemsOf, itemsL, itemsT, b1Int, b1Abs, b1Str, bIsi, bB, bAnd, bOr, bNot, bAndV, bOrV, bNotV, bChain, bIf, bIx, bMt, isL, mOwn, asDatas, datas, Option.map_some, fAppend, fPop, fPopAt, fRemove, mIndex, bCatL, ownL, bCatT, bRepL, bInI, bRevL, bRevT, bSl, oNone, oSome, bLstRg1, bTupRg1, bDown, bCall, callW, plainB, bCallK, List.getElem?_cons_zero, List.getElem?_cons_succ, List.set_cons_zero, List.set_cons_succ, endsF, intsD_map, b1Sorted, biTup, biSeq, biR1, biR2, b1Repr, isRefD, bStrB, bAsI, bAsB, bAsD, bAsO, bNeE, atI_0, atI_1, dk, gTupB, gTups, bRaise, bDkS, bDkD, bDkP, bDkA, bDkPut, bDkNew, bDkCat]
      have e0 : (0 : Int) + (j : Int) = j := by omega
      have eN : numOf n r (j : Int) = (i : Int) * n + j := by
        unfold numOf
        rw [rk]
      rw [e0]
      refine ⟨by show 2 ≤ sizeLine; omega, ⟨rfl, rfl⟩, rfl, rfl, n, r, j, _, by rw [eN]; rfl, rp, h1, by omega, by omega, by omega, ?_⟩
      simp only [bSeq, bRet, bAsg, bPar, bPar3, bTup4, gStore, bIfS, bNext, bDrop, bVar, bC, bOp, bUn, bII, bIC, bIB, asInts, asInt, asBool, asStrs, asStr, asView, vw, bCons, bNil, bTup, bLst, bFz, Ow.dat, bCB, one1, b1Len, lenD, b1List, b1Tuple, itemsOf, itemsL, itemsT, b1Int, b1Abs, b1Str, bIsi, bB, bAnd, bOr, bNot, bAndV, bOrV, bNotV, bChain, bIf, bIx, bMt, isL, mOwn, asDatas, datas, Option.map_some, fAppend, fPop, fPopAt, fRemove, mIndex, bCatL, ownL, bCatT, bRepL, bInI, bRevL, bRevT, bSl, oNone, oSome, bLstRg1, bTupRg1, bDown, bCall, callW, plainB, bCallK, List.getElem?_cons_zero, List.getElem?_cons_succ, List.set_cons_zero, List.set_cons_succ, endsF, intsD_map, b1Sorted, biTup, biSeq, biR1, biR2, b1Repr, isRefD, bStrB, bAsI, bAsB, bAsD, bAsO, bNeE, atI_0, atI_1, dk, gTupB, gTups, bRaise, bDkS, bDkD, bDkP, bDkA, bDkPut, bDkNew, bDkCat]
      refine ⟨.fz (.int j), ?_⟩
      have e1 : (i : Int) * n + j + 1 = (i : Int) * n + ((j + 1 : Nat) : Int) := by omega
      rw [e1]
    · rintro e ⟨s6, rfl⟩
      rw [range_len]
      refine ⟨.fz (rowD r), s6, ?_⟩
      have e1 : (i : Int) * n + (n : Int) = ((i + 1 : Nat) : Int) * n := by
        rw [Int.natCast_add, Int.add_mul]
        simp
      rw [e1]
  · rintro e ⟨s4, s6, rfl⟩
    exact h _ _ _
theorem L_B : ∃ b, BSt (LX P w K mg base f cdv A outer s H E0') [] (nth (defBody st_law) 4) b ∧ ∀ (E : BEnds) ms st s0 s2 s3 s4 s5 s6 s7 s8 s9 s10 s11, ms.length ≤ 63 → (∀ d1 s2 s3 s4 s5 s6 s7 s8 s9 s10 s11, E.nx [s0, d1, s2, s3, s4, s5, s6, s7, s8, s9, s10, s11]) →
    b E [s0, dk ms st, s2, s3, s4, s5, s6, s7, s8, s9, s10, s11] := by
  obtain ⟨b0, k0, g0⟩ := L_B0 (base := base) (f := f) (cdv := cdv) (outer := outer) (H := H) (E0' := E0') T hgd hr T__law_deck T__law_draw T__law_pick T__law_mixed T__law_many T__law_rows T__law_number T__law_standing T__law_seen T__law_is_right
  obtain ⟨b1, k1, g1⟩ := L_B1 (base := base) (f := f) (cdv := cdv) (outer := outer) (H := H) (E0' := E0') T hgd hr T__law_deck T__law_draw T__law_pick T__law_mixed T__law_many T__law_rows T__law_number T__law_standing T__law_seen T__law_is_right
  obtain ⟨b2, k2, g2⟩ := L_B2 (base := base) (f := f) (cdv := cdv) (outer := outer) (H := H) (E0' := E0') T hgd hr T__law_deck T__law_draw T__law_pick T__law_mixed T__law_many T__law_rows T__law_number T__law_standing T__law_seen T__law_is_right
  obtain ⟨b3, k3, g3⟩ := L_B3 (base := base) (f := f) (cdv := cdv) (outer := outer) (H := H) (E0' := E0') T hgd hr T__law_deck T__law_draw T__law_pick T__law_mixed T__law_many T__law_rows T__law_number T__law_standing T__law_seen T__law_is_right
  obtain ⟨b4, k4, g4⟩ := L_B4 (base := base) (f := f) (cdv := cdv) (outer := outer) (H := H) (E0' := E0') T hgd hr T__law_deck T__law_draw T__law_pick T__law_mixed T__law_many T__law_rows T__law_number T__law_standing T__law_seen T__law_is_right
  obtain ⟨b5, k5, g5⟩ := L_B5 (base := base) (f := f) (cdv := cdv) (outer := outer) (H := H) (E0' := E0') T hgd hr T__law_deck T__law_draw T__law_pick T__law_mixed T__law_many T__law_rows T__law_number T__law_standing T__law_seen T__law_is_right
  obtain ⟨b6, k6, g6⟩ := L_B6 (base := base) (f := f) (cdv := cdv) (outer := outer) (H := H) (E0' := E0') T hgd hr T__law_deck T__law_draw T__law_pick T__law_mixed T__law_many T__law_rows T__law_number T__law_standing T__law_seen T__law_is_right
  refine ⟨_, bs_for PassesOwn.never rfl (bi_range1 rfl T.n_range (ba_cons be_int ba_nil)) (bg_name 5 sc_law.nd) (bss_cons k0 (bss_cons k1 (bss_cons k2 (bss_cons k3 (bss_cons k4 (bss_cons k5 (bss_one k6))))))), fun E ms st s0 s2 s3 s4 s5 s6 s7 s8 s9 s10 s11 hm h => ?_⟩
  unfold bFor
  simp only [bSeq, bRet, bAsg, bPar, bPar3, bTup4, gStore, bIfS, bNext, bDrop, bVar, bC, bOp, bUn, bII, bIC, bIB, asInts, asInt, asBool, asStrs, asStr, asView, vw, bCons, bNil, bTup, bLst, bFz, Ow.dat, bCB, one1, b1Len, lenD, b1List, b1Tuple, itemsOf, itemsL, itemsT, b1Int, b1Abs, b1Str, bIsi, bB, bAnd, bOr, bNot, bAndV, bOrV, bNotV, bChain, bIf, bIx, bMt, isL, mOwn, asDatas, datas, Option.map_some, fAppend, fPop, fPopAt, fRemove, mIndex, bCatL, ownL, bCatT, bRepL, bInI, bRevL, bRevT, bSl, oNone, oSome, bLstRg1, bTupRg1, bDown, bCall, callW, plainB, bCallK, List.getElem?_cons_zero, List.getElem?_cons_succ, List.set_cons_zero, List.set_cons_succ, endsF, intsD_map, b1Sorted, biTup, biSeq, biR1, biR2, b1Repr, isRefD, bStrB, bAsI, bAsB, bAsD, bAsO, bNeE, atI_0, atI_1, dk, gTupB, gTups, bRaise, bDkS, bDkD, bDkP, bDkA, bDkPut, bDkNew, bDkCat]
  refine ⟨⟨by omega, by omega⟩, fun i e => ∃ ms st s2 s3 s4 s5 s6 s7 s8 s9 s10 s11, e = [s0, dk ms st, s2, s3, s4, s5, s6, s7, s8, s9, s10, s11] ∧ ms.length ≤ 63, ⟨_, _, _, _, _, _, _, _, _, _, _, _, rfl, hm⟩, ?_, ?_⟩
  · rintro i d e hi ⟨ms, st, s2, s3, s4, s5, s6, s7, s8, s9, s10, s11, rfl, hm⟩
    obtain ⟨_, rfl⟩ := range_get hi
    simp only [bSeq, bRet, bAsg, bPar, bPar3, bTup4, gStore, bIfS, bNext, bDrop, bVar, bC, bOp, bUn, bII, bIC, bIB, asInts, asInt, asBool, asStrs, asStr, asView, vw, bCons, bNil, bTup, bLst, bFz, Ow.dat, bCB, one1, b1Len, lenD, b1List, b1Tuple, itemsOf, itemsL, itemsT, b1Int, b1Abs, b1Str, bIsi, bB, bAnd, bOr, bNot, bAndV, bOrV, bNotV, bChain, bIf, bIx, bMt, isL, mOwn, asDatas, datas, Option.map_some, fAppend, fPop, fPopAt, fRemove, mIndex, bCatL, ownL, bCatT, bRepL, bInI, bRevL, bRevT, bSl, oNone, oSome, bLstRg1, bTupRg1, bDown, bCall, callW, plainB, bCallK, List.getElem?_cons_zero, List.getElem?_cons_succ, List.set_cons_zero, List.set_cons_succ, endsF, intsD_map, b1Sorted, biTup, biSeq, biR1, biR2, b1Repr, isRefD, bStrB, bAsI, bAsB, bAsD, bAsO, bNeE, atI_0, atI_1, dk, gTupB, gTups, bRaise, bDkS, bDkD, bDkP, bDkA, bDkPut, bDkNew, bDkCat]
    refine g0 _ ms st _ s0 s2 s3 s4 s6 s7 s8 s9 s10 s11 hm (by omega) fun ms st n hm h1 h2 => ?_
    refine g1 _ ms st n _ _ _ _ _ _ _ _ _ _ hm h1 h2 fun ms st ns hm hp => ?_
    refine g2 _ ms st n ns _ _ _ _ _ _ _ _ _ hm h1 h2 hp fun ms st l hm hl hg => ?_
    refine g3 _ ms st n l _ _ _ _ _ _ _ _ hm h1 h2 hl hg fun ms st l hm hg => ?_
    refine g4 _ ms st n _ l _ _ _ _ _ _ _ _ h1 h2 hg fun s7 s8 => ?_
    refine g5 _ _ n _ _ _ _ _ _ _ _ _ h1 h2 fun l hl hg => ?_
    refine g6 _ ms st n l _ _ _ _ _ _ _ _ _ hm h1 h2 hl hg fun ms st s10 hm => ?_
    exact ⟨_, _, _, _, _, _, _, _, _, _, _, _, rfl, hm⟩
  · rintro e ⟨ms, st, s2, s3, s4, s5, s6, s7, s8, s9, s10, s11, rfl, hm⟩
    exact h _ _ _ _ _ _ _ _ _ _ _
end
end K4

set_option maxHeartbeats 400000
/-! k04, part j: the law. -/
namespace K4
open PySem L2 BV
section
variable {P : Program} {w : World} {K : Fg} {mg : Str → Option Value} {base : Heap} {f : Addr} {fd : FuncData}
theorem ok_law (T : Txt mg)
  (T__law_deck : Fn P w K mg base CX0 1 "_law_deck" st__law_deck ["script"] (spB K 1 ph__law_deck))
  (T__law_draw : Fn P w K mg base CX0 1 "_law_draw" st__law_draw ["deck", "many"] (spB K 2 ph__law_draw))
  (T__law_pick : Fn P w K mg base CX0 2 "_law_pick" st__law_pick ["deck", "items"] (spB K 2 ph__law_pick))
  (T__law_mixed : Fn P w K mg base CX0 2 "_law_mixed" st__law_mixed ["deck", "items"] (spB K 2 ph__law_mixed))
  (T__law_many : Fn P w K mg base CX0 1 "_law_many" st__law_many ["n"] (spB K 1 ph__law_many))
  (T__law_rows : Fn P w K mg base CX0 1 "_law_rows" st__law_rows ["n"] (spB K 1 ph__law_rows))
  (T__law_number : Fn P w K mg base CX0 1 "_law_number" st__law_number ["n", "standing"] (spB K 2 ph__law_number))
  (T__law_standing : Fn P w K mg base CX0 1 "_law_standing" st__law_standing ["n", "number"] (spB K 2 ph__law_standing))
  (T__law_seen : Fn P w K mg base CX0 3 "_law_seen" st__law_seen ["n", "value", "is_named"] (spB K 3 ph__law_seen))
  (T__law_is_right : Fn P w K mg base CX0 4 "_law_is_right" st__law_is_right ["n", "standing", "number", "is_named"] (spB K 4 ph__law_is_right))
  (F : Fun K "law" "law" st_law f fd) : FnG P w K mg base CX0 5 f fd ["script"] (spB K 1 phLaw) :=
  fg_ok (pins := []) F sc_law rfl (by decide) phLaw_shape fun cdv A outer s H E hgd hr args Q hl h => by
    obtain ⟨ns, rfl, hn, h⟩ := h
    obtain ⟨bAA, kA, gA⟩ := L_A (base := base) (f := f) (cdv := cdv) (outer := outer) (H := H) (E0' := E) T hgd hr T__law_deck T__law_draw T__law_pick T__law_mixed T__law_many T__law_rows T__law_number T__law_standing T__law_seen T__law_is_right
    obtain ⟨bBB, kB, gB⟩ := L_B (base := base) (f := f) (cdv := cdv) (outer := outer) (H := H) (E0' := E) T hgd hr T__law_deck T__law_draw T__law_pick T__law_mixed T__law_many T__law_rows T__law_number T__law_standing T__law_seen T__law_is_right
    refine ⟨_, bss_cons (bs_set 1 sc_law.nd (be_callF T__law_deck hgd (hr.mono (by decide)) rfl (ba_cons (be_fz (bv 0)) ba_nil))) (bss_cons (bs_set 2 sc_law.nd (be_fz (be_if (bt_cmp (cr_eq hr.units) (be_asI (be_callF T__law_draw hgd (hr.mono (by decide)) rfl (ba_cons (bv 1) (ba_cons be_int ba_nil)))) be_int) (be_asI (be_callF T__law_pick hgd (hr.mono (by decide)) rfl (ba_cons (bv 1) (ba_cons (be_fz (be_lst (ba_cons be_int (ba_cons be_int (ba_cons be_int (ba_cons be_int (ba_cons be_int ba_nil))))))) ba_nil)))) (be_add be_int (be_asI (be_callF T__law_draw hgd (hr.mono (by decide)) rfl (ba_cons (bv 1) (ba_cons be_int ba_nil)))))))) (bss_cons (bs_set 3 sc_law.nd be_int) (bss_cons kA (bss_cons kB (bss_one (bs_ret be_bl)))))), ?_⟩
    refine atEnv [.fz (.list (ns.map PyData.int)), .un, .un, .un, .un, .un, .un, .un, .un, .un, .un, .un] rfl ?_
    have hb := line_big
    simp only [bSeq, bRet, bAsg, bPar, bPar3, bTup4, gStore, bIfS, bNext, bDrop, bVar, bC, bOp, bUn, bII, bIC, bIB, asInts, asInt, asBool, asStrs, asStr, asView, vw, bCons, bNil, bTup, bLst, bFz, Ow.dat, bCB, one1, b1Len, lenD, b1List, b1Tuple, itemsOf, itemsL, itemsT, b1Int, b1Abs, b1Str, bIsi, bB, bAnd, bOr, bNot, bAndV, bOrV, bNotV, bChain, bIf, bIx, bMt, isL, mOwn, asDatas, datas, Option.map_some, fAppend, fPop, fPopAt, fRemove, mIndex, bCatL, ownL, bCatT, bRepL, bInI, bRevL, bRevT, bSl, oNone, oSome, bLstRg1, bTupRg1, bDown, bCall, callW, plainB, bCallK, List.getElem?_cons_zero, List.getElem?_cons_succ, List.set_cons_zero, List.set_cons_succ, endsF, intsD_map, b1Sorted, biTup, biSeq, biR1, biR2, b1Repr, isRefD, bStrB, bAsI, bAsB, bAsD, bAsO, bNeE, atI_0, atI_1, dk, gTupB, gTups, bRaise, bDkS, bDkD, bDkP, bDkA, bDkPut, bDkNew, bDkCat]
    refine ⟨rfl, trivial, ns, rfl, hn, fun ms st hms => ?_⟩
    simp only [bSeq, bRet, bAsg, bPar, bPar3, bTup4, gStore, bIfS, bNext, bDrop, bVar, bC, bOp, bUn, bII, bIC, bIB, asInts, asInt, asBool, asStrs, asStr, asView, vw, bCons, bNil, bTup, bLst, bFz, Ow.dat, bCB, one1, b1Len, lenD, b1List, b1Tuple, itemsOf, itemsL, itemsT, b1Int, b1Abs, b1Str, bIsi, bB, bAnd, bOr, bNot, bAndV, bOrV, bNotV, bChain, bIf, bIx, bMt, isL, mOwn, asDatas, datas, Option.map_some, fAppend, fPop, fPopAt, fRemove, mIndex, bCatL, ownL, bCatT, bRepL, bInI, bRevL, bRevT, bSl, oNone, oSome, bLstRg1, bTupRg1, bDown, bCall, callW, plainB, bCallK, List.getElem?_cons_zero, List.getElem?_cons_succ, List.set_cons_zero, List.set_cons_succ, endsF, intsD_map, b1Sorted, biTup, biSeq, biR1, biR2, b1Repr, isRefD, bStrB, bAsI, bAsB, bAsD, bAsO, bNeE, atI_0, atI_1, dk, gTupB, gTups, bRaise, bDkS, bDkD, bDkP, bDkA, bDkPut, bDkNew, bDkCat]
    have h3 : (3 : Int).natAbs.log2 < 9000 := by decide +kernel
    refine ⟨rfl, trivial, ms, st, 3, rfl, hms, h3, fun ms st k hms hk0 hk => ⟨_, rfl, ?_⟩⟩
    simp only [bEq]
    simp only [bSeq, bRet, bAsg, bPar, bPar3, bTup4, gStore, bIfS, bNext, bDrop, bVar, bC, bOp, bUn, bII, bIC, bIB, asInts, asInt, asBool, asStrs, asStr, asView, vw, bCons, bNil, bTup, bLst, bFz, Ow.dat, bCB, one1, b1Len, lenD, b1List, b1Tuple, itemsOf, itemsL, itemsT, b1Int, b1Abs, b1Str, bIsi, bB, bAnd, bOr, bNot, bAndV, bOrV, bNotV, bChain, bIf, bIx, bMt, isL, mOwn, asDatas, datas, Option.map_some, fAppend, fPop, fPopAt, fRemove, mIndex, bCatL, ownL, bCatT, bRepL, bInI, bRevL, bRevT, bSl, oNone, oSome, bLstRg1, bTupRg1, bDown, bCall, callW, plainB, bCallK, List.getElem?_cons_zero, List.getElem?_cons_succ, List.set_cons_zero, List.set_cons_succ, endsF, intsD_map, b1Sorted, biTup, biSeq, biR1, biR2, b1Repr, isRefD, bStrB, bAsI, bAsB, bAsD, bAsO, bNeE, atI_0, atI_1, dk, gTupB, gTups, bRaise, bDkS, bDkD, bDkP, bDkA, bDkPut, bDkNew, bDkCat]
    refine ⟨⟨rfl, rfl⟩, ifB (fun _ => ?_) (fun _ => ?_)⟩
    · refine ⟨by show 5 ≤ sizeLine; omega, rfl, trivial, ms, st, _, rfl, hms, (by show 0 < 5; omega), (by show 5 ≤ 1000000; omega), fun ms st k d hms hd => ⟨_, rfl, ?_⟩⟩
      have key : ∃ n : Nat, d = .int n ∧ 1 ≤ n ∧ n ≤ 4 := by
        match k, hd with
        | 0, hd => exact ⟨1, (Option.some.inj hd).symm, by omega, by omega⟩
        | 1, hd => exact ⟨2, (Option.some.inj hd).symm, by omega, by omega⟩
        | 2, hd => exact ⟨3, (Option.some.inj hd).symm, by omega, by omega⟩
        | 3, hd => exact ⟨3, (Option.some.inj hd).symm, by omega, by omega⟩
        | 4, hd => exact ⟨4, (Option.some.inj hd).symm, by omega, by omega⟩
        | _ + 5, hd => cases hd
      obtain ⟨n, rfl, h1, h2⟩ := key
      exact gA _ _ n _ _ _ _ _ _ _ _ _ h1 h2 fun s3 s4 s6 => gB _ ms st _ _ _ _ _ _ _ _ _ _ _ hms fun d1 s2 s3 s4 s5 s6 s7 s8 s9 s10 s11 => h
    · refine ⟨rfl, trivial, ms, st, 3, rfl, hms, h3, fun ms st k hms hk0 hk => ⟨_, rfl, ?_⟩⟩
      obtain ⟨j, rfl⟩ := Int.eq_ofNat_of_zero_le hk0
      have e1 : (1 : Int) + (j : Int) = ((j + 1 : Nat) : Int) := by omega
      simp only [bSeq, bRet, bAsg, bPar, bPar3, bTup4, gStore, bIfS, bNext, bDrop, bVar, bC, bOp, bUn, bII, bIC, bIB, asInts, asInt, asBool, asStrs, asStr, asView, vw, bCons, bNil, bTup, bLst, bFz, Ow.dat, bCB, one1, b1Len, lenD, b1List, b1Tuple, itemsOf, itemsL, itemsT, b1Int, b1Abs, b1Str, bIsi, bB, bAnd, bOr, bNot, bAndV, bOrV, bNotV, bChain, bIf, bIx, bMt, isL, mOwn, asDatas, datas, Option.map_some, fAppend, fPop, fPopAt, fRemove, mIndex, bCatL, ownL, bCatT, bRepL, bInI, bRevL, bRevT, bSl, oNone, oSome, bLstRg1, bTupRg1, bDown, bCall, callW, plainB, bCallK, List.getElem?_cons_zero, List.getElem?_cons_succ, List.set_cons_zero, List.set_cons_succ, endsF, intsD_map, b1Sorted, biTup, biSeq, biR1, biR2, b1Repr, isRefD, bStrB, bAsI, bAsB, bAsD, bAsO, bNeE, atI_0, atI_1, dk, gTupB, gTups, bRaise, bDkS, bDkD, bDkP, bDkA, bDkPut, bDkNew, bDkCat]
      rw [e1]
      exact gA _ _ (j + 1) _ _ _ _ _ _ _ _ _ (by omega) (by omega) fun s3 s4 s6 => gB _ ms st _ _ _ _ _ _ _ _ _ _ _ hms fun d1 s2 s3 s4 s5 s6 s7 s8 s9 s10 s11 => h
end
end K4

set_option maxHeartbeats 400000
/-! k04, part k: the end. -/
namespace K4
open PySem L2 BV
theorem exm_self {K : Fg} {S : Addr} (h1 : PySem.W.subIn K (.ref S) (.type "BaseException") = some true) (h2 : PySem.W.isClsIn K S = true) (h3 : PySem.W.typeIn K (.ref S) = some (.type "type")) (h4 : PySem.W.subIn K (.ref S) (.ref S) = some true) : PySem.W.exmOne K (.ref S) (.ref S) = some true := by
  have e1 : (PySem.W.subIn K (.ref S) (.type "BaseException") == some true) = true := by
    rw [h1]
    rfl
  have e2 : ((PySem.W.clsIn K S).isSome && PySem.W.typeIn K (.ref S) == some (.type "type")) = true := by
    have z : (PySem.W.clsIn K S).isSome = true := h2
    rw [z, h3]
    rfl
  unfold PySem.W.exmOne
  rw [if_pos e1]
  unfold PySem.W.kitCls
  exact (if_pos e2).trans h4
theorem all_mk {l : PySem.W.OpenLaw} {w : World} {K : Fg} {h : Heap} {mg : Str → Option Value} {fa U S f0 f1 f2 f3 f4 f5 f6 f7 f8 f9 f10 f11 f12 f13 f14 f15 : Addr} (X : K.In h) (G : h.Ns mainGlobals mg) (hfa : mg "law" = some (.ref fa))
    {od0 an0 od1 an1 od2 an2 od3 an3 od4 an4 od5 an5 od6 an6 od7 an7 od8 an8 od9 an9 od10 an10 od11 an11 od12 an12 od13 an13 od14 an14 od15 an15 : Option Addr} {sl0 sl1 sl2 sl3 sl4 sl5 sl6 sl7 sl8 sl9 sl10 sl11 sl12 sl13 sl14 sl15 : Array (Option Value)} {oc0 kV0 dc0 pm0 cd0 ct0 oc1 kV1 dc1 pm1 cd1 ct1 oc2 kV2 dc2 pm2 cd2 ct2 oc3 kV3 dc3 pm3 cd3 ct3 oc4 kV4 dc4 pm4 cd4 ct4 oc5 kV5 dc5 pm5 cd5 ct5 oc6 kV6 dc6 pm6 cd6 ct6 oc7 kV7 dc7 pm7 cd7 ct7 oc8 kV8 dc8 pm8 cd8 ct8 oc9 kV9 dc9 pm9 cd9 ct9 oc10 kV10 dc10 pm10 cd10 ct10 oc11 kV11 dc11 pm11 cd11 ct11 oc12 kV12 dc12 pm12 cd12 ct12 oc13 kV13 dc13 pm13 cd13 ct13 oc14 kV14 dc14 pm14 cd14 ct14 oc15 kV15 dc15 pm15 cd15 ct15 : Value}
    (a0 : PySem.W.nsIn K mainGlobals "is_integer" = some (some (.ref f0)))
    (l0 : K.lookup f0 = some ⟨oc0, od0, .func (PySem.W.fnOf "is_integer" "is_integer" (defArgs st_is_integer) (defBody st_is_integer) (defScope st_is_integer) .none kV0 dc0 pm0 an0 cd0 ct0), sl0⟩)
    (c0 : PySem.W.codeIn K cd0 "is_integer" = true)
    (k0 : PySem.W.keepIn K (.ref f0) = true)
    (a1 : PySem.W.nsIn K mainGlobals "row_number" = some (some (.ref f1)))
    (l1 : K.lookup f1 = some ⟨oc1, od1, .func (PySem.W.fnOf "row_number" "row_number" (defArgs st_row_number) (defBody st_row_number) (defScope st_row_number) .none kV1 dc1 pm1 an1 cd1 ct1), sl1⟩)
    (c1 : PySem.W.codeIn K cd1 "row_number" = true)
    (k1 : PySem.W.keepIn K (.ref f1) = true)
    (a2 : PySem.W.nsIn K mainGlobals "row_at" = some (some (.ref f2)))
    (l2 : K.lookup f2 = some ⟨oc2, od2, .func (PySem.W.fnOf "row_at" "row_at" (defArgs st_row_at) (defBody st_row_at) (defScope st_row_at) .none kV2 dc2 pm2 an2 cd2 ct2), sl2⟩)
    (c2 : PySem.W.codeIn K cd2 "row_at" = true)
    (k2 : PySem.W.keepIn K (.ref f2) = true)
    (a3 : PySem.W.nsIn K mainGlobals "standing_number" = some (some (.ref f3)))
    (l3 : K.lookup f3 = some ⟨oc3, od3, .func (PySem.W.fnOf "standing_number" "standing_number" (defArgs st_standing_number) (defBody st_standing_number) (defScope st_standing_number) .none kV3 dc3 pm3 an3 cd3 ct3), sl3⟩)
    (c3 : PySem.W.codeIn K cd3 "standing_number" = true)
    (k3 : PySem.W.keepIn K (.ref f3) = true)
    (a4 : PySem.W.nsIn K mainGlobals "standing_at" = some (some (.ref f4)))
    (l4 : K.lookup f4 = some ⟨oc4, od4, .func (PySem.W.fnOf "standing_at" "standing_at" (defArgs st_standing_at) (defBody st_standing_at) (defScope st_standing_at) .none kV4 dc4 pm4 an4 cd4 ct4), sl4⟩)
    (c4 : PySem.W.codeIn K cd4 "standing_at" = true)
    (k4 : PySem.W.keepIn K (.ref f4) = true)
    (a5 : PySem.W.nsIn K mainGlobals "_law_deck" = some (some (.ref f5)))
    (l5 : K.lookup f5 = some ⟨oc5, od5, .func (PySem.W.fnOf "_law_deck" "_law_deck" (defArgs st__law_deck) (defBody st__law_deck) (defScope st__law_deck) .none kV5 dc5 pm5 an5 cd5 ct5), sl5⟩)
    (c5 : PySem.W.codeIn K cd5 "_law_deck" = true)
    (k5 : PySem.W.keepIn K (.ref f5) = true)
    (a6 : PySem.W.nsIn K mainGlobals "_law_draw" = some (some (.ref f6)))
    (l6 : K.lookup f6 = some ⟨oc6, od6, .func (PySem.W.fnOf "_law_draw" "_law_draw" (defArgs st__law_draw) (defBody st__law_draw) (defScope st__law_draw) .none kV6 dc6 pm6 an6 cd6 ct6), sl6⟩)
    (c6 : PySem.W.codeIn K cd6 "_law_draw" = true)
    (k6 : PySem.W.keepIn K (.ref f6) = true)
    (a7 : PySem.W.nsIn K mainGlobals "_law_pick" = some (some (.ref f7)))
    (l7 : K.lookup f7 = some ⟨oc7, od7, .func (PySem.W.fnOf "_law_pick" "_law_pick" (defArgs st__law_pick) (defBody st__law_pick) (defScope st__law_pick) .none kV7 dc7 pm7 an7 cd7 ct7), sl7⟩)
    (c7 : PySem.W.codeIn K cd7 "_law_pick" = true)
    (k7 : PySem.W.keepIn K (.ref f7) = true)
    (a8 : PySem.W.nsIn K mainGlobals "_law_mixed" = some (some (.ref f8)))
    (l8 : K.lookup f8 = some ⟨oc8, od8, .func (PySem.W.fnOf "_law_mixed" "_law_mixed" (defArgs st__law_mixed) (defBody st__law_mixed) (defScope st__law_mixed) .none kV8 dc8 pm8 an8 cd8 ct8), sl8⟩)
    (c8 : PySem.W.codeIn K cd8 "_law_mixed" = true)
    (k8 : PySem.W.keepIn K (.ref f8) = true)
    (a9 : PySem.W.nsIn K mainGlobals "_law_rows" = some (some (.ref f9)))
    (l9 : K.lookup f9 = some ⟨oc9, od9, .func (PySem.W.fnOf "_law_rows" "_law_rows" (defArgs st__law_rows) (defBody st__law_rows) (defScope st__law_rows) .none kV9 dc9 pm9 an9 cd9 ct9), sl9⟩)
    (c9 : PySem.W.codeIn K cd9 "_law_rows" = true)
    (k9 : PySem.W.keepIn K (.ref f9) = true)
    (a10 : PySem.W.nsIn K mainGlobals "_law_number" = some (some (.ref f10)))
    (l10 : K.lookup f10 = some ⟨oc10, od10, .func (PySem.W.fnOf "_law_number" "_law_number" (defArgs st__law_number) (defBody st__law_number) (defScope st__law_number) .none kV10 dc10 pm10 an10 cd10 ct10), sl10⟩)
    (c10 : PySem.W.codeIn K cd10 "_law_number" = true)
    (k10 : PySem.W.keepIn K (.ref f10) = true)
    (a11 : PySem.W.nsIn K mainGlobals "_law_standing" = some (some (.ref f11)))
    (l11 : K.lookup f11 = some ⟨oc11, od11, .func (PySem.W.fnOf "_law_standing" "_law_standing" (defArgs st__law_standing) (defBody st__law_standing) (defScope st__law_standing) .none kV11 dc11 pm11 an11 cd11 ct11), sl11⟩)
    (c11 : PySem.W.codeIn K cd11 "_law_standing" = true)
    (k11 : PySem.W.keepIn K (.ref f11) = true)
    (a12 : PySem.W.nsIn K mainGlobals "_law_many" = some (some (.ref f12)))
    (l12 : K.lookup f12 = some ⟨oc12, od12, .func (PySem.W.fnOf "_law_many" "_law_many" (defArgs st__law_many) (defBody st__law_many) (defScope st__law_many) .none kV12 dc12 pm12 an12 cd12 ct12), sl12⟩)
    (c12 : PySem.W.codeIn K cd12 "_law_many" = true)
    (k12 : PySem.W.keepIn K (.ref f12) = true)
    (a13 : PySem.W.nsIn K mainGlobals "_law_seen" = some (some (.ref f13)))
    (l13 : K.lookup f13 = some ⟨oc13, od13, .func (PySem.W.fnOf "_law_seen" "_law_seen" (defArgs st__law_seen) (defBody st__law_seen) (defScope st__law_seen) .none kV13 dc13 pm13 an13 cd13 ct13), sl13⟩)
    (c13 : PySem.W.codeIn K cd13 "_law_seen" = true)
    (k13 : PySem.W.keepIn K (.ref f13) = true)
    (a14 : PySem.W.nsIn K mainGlobals "_law_is_right" = some (some (.ref f14)))
    (l14 : K.lookup f14 = some ⟨oc14, od14, .func (PySem.W.fnOf "_law_is_right" "_law_is_right" (defArgs st__law_is_right) (defBody st__law_is_right) (defScope st__law_is_right) .none kV14 dc14 pm14 an14 cd14 ct14), sl14⟩)
    (c14 : PySem.W.codeIn K cd14 "_law_is_right" = true)
    (k14 : PySem.W.keepIn K (.ref f14) = true)
    (a15 : PySem.W.nsIn K mainGlobals "law" = some (some (.ref f15)))
    (l15 : K.lookup f15 = some ⟨oc15, od15, .func (PySem.W.fnOf "law" "law" (defArgs st_law) (defBody st_law) (defScope st_law) .none kV15 dc15 pm15 an15 cd15 ct15), sl15⟩)
    (c15 : PySem.W.codeIn K cd15 "law" = true)
    (k15 : PySem.W.keepIn K (.ref f15) = true)
    (uA : PySem.W.nsIn K mainGlobals "Unfit" = some (some (.ref U)))
    (sA : PySem.W.nsIn K mainGlobals "SwapError" = some (some (.ref S)))
    (uK : PySem.W.keepIn K (.ref U) = true)
    (uX : PySem.W.excIn K U [.type "ValueError", .type "Exception", .type "BaseException", .type "object"] "ValueError.__new__" = true)
    (uB : PySem.W.subIn K (.ref U) (.type "BaseException") = some true)
    (uT : PySem.W.typeIn K (.ref U) = some (.type "type"))
    (uC : PySem.W.isClsIn K U = true)
    (uU : PySem.W.subIn K (.ref U) (.ref U) = some true)
    (uS : PySem.W.kitOne K (.ref U) (.ref S) = some true)
    (e1 : PySem.W.findIn K (.ref U) "__getattribute__" = some (some (.builtin "BaseException.__getattribute__")))
    (e2 : PySem.W.findIn K (.ref U) "__getattr__" = some none)
    (e3 : PySem.W.findIn K (.ref U) "__class__" = some (some (.builtin "object.__class__")))
    (e4 : PySem.W.specialIn K (.builtin "object.__class__") "__get__" = some (some (.builtin "getset_descriptor.__get__")))
    (e5 : PySem.W.takesIn K (.builtin "object.__class__") = some true)
    (e6 : PySem.W.mroIn K U (.type "object") = some true)
    (z_bool : PySem.W.nsIn K mainGlobals "bool" = some none)
    (z_tuple : PySem.W.nsIn K mainGlobals "tuple" = some none)
    (z_isinstance : PySem.W.nsIn K mainGlobals "isinstance" = some none)
    (z_abs : PySem.W.nsIn K mainGlobals "abs" = some none)
    (z_int : PySem.W.nsIn K mainGlobals "int" = some none)
    (z_sorted : PySem.W.nsIn K mainGlobals "sorted" = some none)
    (z_range : PySem.W.nsIn K mainGlobals "range" = some none)
    (z_list : PySem.W.nsIn K mainGlobals "list" = some none)
    (z_len : PySem.W.nsIn K mainGlobals "len" = some none)
    (z_repr : PySem.W.nsIn K mainGlobals "repr" = some none)
    (z_str : PySem.W.nsIn K mainGlobals "str" = some none)
    : ∃ fd : FuncData, (∀ (s : Shared) (v : Value), BindsTo s fd ⟨[v], []⟩ [("script", v)]) ∧ ∀ base : Heap, K.In base → base.Ns mainGlobals mg → FnG l.prog w K mg base CX0 5 fa fd ["script"] (spB K 1 phLaw) := by
  have e := hfa.symm.trans (PySem.W.mg_of X G a15)
  cases e
  have T : Txt mg := ⟨PySem.W.mg_none_of X G z_bool, PySem.W.mg_none_of X G z_tuple, PySem.W.mg_none_of X G z_isinstance, PySem.W.mg_none_of X G z_abs, PySem.W.mg_none_of X G z_int, PySem.W.mg_none_of X G z_sorted, PySem.W.mg_none_of X G z_range, PySem.W.mg_none_of X G z_list, PySem.W.mg_none_of X G z_len, PySem.W.mg_none_of X G z_repr, PySem.W.mg_none_of X G z_str⟩
  have Er : Err2 K mg U S := ⟨⟨PySem.W.mg_of X G uA, uK, uX, uB, uT⟩, PySem.W.mg_of X G sA, ⟨uC, e1, ⟨_, e2⟩, uB, e3, e4, e5, e6⟩, exm_self uB uC uT uU, uS⟩
  have F0 := fun_mk (st := st_is_integer) l0 c0 k0
  have b0 := F0.binds (ps := ["value"]) fun _ _ _ _ _ _ us hl => match us, hl with | [_], _ => rfl
  have F1 := fun_mk (st := st_row_number) l1 c1 k1
  have b1 := F1.binds (ps := ["row"]) fun _ _ _ _ _ _ us hl => match us, hl with | [_], _ => rfl
  have F2 := fun_mk (st := st_row_at) l2 c2 k2
  have b2 := F2.binds (ps := ["many", "number"]) fun _ _ _ _ _ _ us hl => match us, hl with | [_, _], _ => rfl
  have F3 := fun_mk (st := st_standing_number) l3 c3 k3
  have b3 := F3.binds (ps := ["n", "standing"]) fun _ _ _ _ _ _ us hl => match us, hl with | [_, _], _ => rfl
  have F4 := fun_mk (st := st_standing_at) l4 c4 k4
  have b4 := F4.binds (ps := ["n", "value"]) fun _ _ _ _ _ _ us hl => match us, hl with | [_, _], _ => rfl
  have F5 := fun_mk (st := st__law_deck) l5 c5 k5
  have b5 := F5.binds (ps := ["script"]) fun _ _ _ _ _ _ us hl => match us, hl with | [_], _ => rfl
  have F6 := fun_mk (st := st__law_draw) l6 c6 k6
  have b6 := F6.binds (ps := ["deck", "many"]) fun _ _ _ _ _ _ us hl => match us, hl with | [_, _], _ => rfl
  have F7 := fun_mk (st := st__law_pick) l7 c7 k7
  have b7 := F7.binds (ps := ["deck", "items"]) fun _ _ _ _ _ _ us hl => match us, hl with | [_, _], _ => rfl
  have F8 := fun_mk (st := st__law_mixed) l8 c8 k8
  have b8 := F8.binds (ps := ["deck", "items"]) fun _ _ _ _ _ _ us hl => match us, hl with | [_, _], _ => rfl
  have F9 := fun_mk (st := st__law_rows) l9 c9 k9
  have b9 := F9.binds (ps := ["n"]) fun _ _ _ _ _ _ us hl => match us, hl with | [_], _ => rfl
  have F10 := fun_mk (st := st__law_number) l10 c10 k10
  have b10 := F10.binds (ps := ["n", "standing"]) fun _ _ _ _ _ _ us hl => match us, hl with | [_, _], _ => rfl
  have F11 := fun_mk (st := st__law_standing) l11 c11 k11
  have b11 := F11.binds (ps := ["n", "number"]) fun _ _ _ _ _ _ us hl => match us, hl with | [_, _], _ => rfl
  have F12 := fun_mk (st := st__law_many) l12 c12 k12
  have b12 := F12.binds (ps := ["n"]) fun _ _ _ _ _ _ us hl => match us, hl with | [_], _ => rfl
  have F13 := fun_mk (st := st__law_seen) l13 c13 k13
  have b13 := F13.binds (ps := ["n", "value", "is_named"]) fun _ _ _ _ _ _ us hl => match us, hl with | [_, _, _], _ => rfl
  have F14 := fun_mk (st := st__law_is_right) l14 c14 k14
  have b14 := F14.binds (ps := ["n", "standing", "number", "is_named"]) fun _ _ _ _ _ _ us hl => match us, hl with | [_, _, _, _], _ => rfl
  have F15 := fun_mk (st := st_law) l15 c15 k15
  refine ⟨PySem.W.fnOf "law" "law" (defArgs st_law) (defBody st_law) (defScope st_law) .none kV15 dc15 pm15 an15 cd15 ct15, fun s v => .of_eq rfl, fun base _ _ => ?_⟩
  have T_is_integer : Fn l.prog w K mg base CX0 1 "is_integer" st_is_integer ["value"] (spB K 1 ph_is_integer) := ⟨f0, _, PySem.W.mg_of X G a0, k0, F0, b0, ok_is_integer T  F0⟩
  have T_row_number : Fn l.prog w K mg base CX0 1 "row_number" st_row_number ["row"] (spB K 1 ph_row_number) := ⟨f1, _, PySem.W.mg_of X G a1, k1, F1, b1, ok_row_number T  F1⟩
  have T_row_at : Fn l.prog w K mg base CX0 1 "row_at" st_row_at ["many", "number"] (spB K 2 ph_row_at) := ⟨f2, _, PySem.W.mg_of X G a2, k2, F2, b2, ok_row_at T  F2⟩
  have T_standing_number : Fn l.prog w K mg base CX0 2 "standing_number" st_standing_number ["n", "standing"] (spB K 2 ph_standing_number) := ⟨f3, _, PySem.W.mg_of X G a3, k3, F3, b3, ok_standing_number T T_row_number F3⟩
  have T_standing_at : Fn l.prog w K mg base (L2.CX l.prog w) 2 "standing_at" st_standing_at ["n", "value"] (spX K 2 (ph_standing_at U)) := ⟨f4, _, PySem.W.mg_of X G a4, k4, F4, b4, ok_standing_at T Er.er T_is_integer T_row_at F4⟩
  have T__law_deck : Fn l.prog w K mg base CX0 1 "_law_deck" st__law_deck ["script"] (spB K 1 ph__law_deck) := ⟨f5, _, PySem.W.mg_of X G a5, k5, F5, b5, ok__law_deck T  F5⟩
  have T__law_draw : Fn l.prog w K mg base CX0 1 "_law_draw" st__law_draw ["deck", "many"] (spB K 2 ph__law_draw) := ⟨f6, _, PySem.W.mg_of X G a6, k6, F6, b6, ok__law_draw T  F6⟩
  have T__law_pick : Fn l.prog w K mg base CX0 2 "_law_pick" st__law_pick ["deck", "items"] (spB K 2 ph__law_pick) := ⟨f7, _, PySem.W.mg_of X G a7, k7, F7, b7, ok__law_pick T T__law_draw F7⟩
  have T__law_mixed : Fn l.prog w K mg base CX0 2 "_law_mixed" st__law_mixed ["deck", "items"] (spB K 2 ph__law_mixed) := ⟨f8, _, PySem.W.mg_of X G a8, k8, F8, b8, ok__law_mixed T T__law_draw F8⟩
  have T__law_rows : Fn l.prog w K mg base CX0 1 "_law_rows" st__law_rows ["n"] (spB K 1 ph__law_rows) := ⟨f9, _, PySem.W.mg_of X G a9, k9, F9, b9, ok__law_rows T  F9⟩
  have T__law_number : Fn l.prog w K mg base CX0 1 "_law_number" st__law_number ["n", "standing"] (spB K 2 ph__law_number) := ⟨f10, _, PySem.W.mg_of X G a10, k10, F10, b10, ok__law_number T  F10⟩
  have T__law_standing : Fn l.prog w K mg base CX0 1 "_law_standing" st__law_standing ["n", "number"] (spB K 2 ph__law_standing) := ⟨f11, _, PySem.W.mg_of X G a11, k11, F11, b11, ok__law_standing T  F11⟩
  have T__law_many : Fn l.prog w K mg base CX0 1 "_law_many" st__law_many ["n"] (spB K 1 ph__law_many) := ⟨f12, _, PySem.W.mg_of X G a12, k12, F12, b12, ok__law_many T  F12⟩
  have T__law_seen : Fn l.prog w K mg base CX0 3 "_law_seen" st__law_seen ["n", "value", "is_named"] (spB K 3 ph__law_seen) := ⟨f13, _, PySem.W.mg_of X G a13, k13, F13, b13, ok__law_seen T Er T_standing_at F13⟩
  have T__law_is_right : Fn l.prog w K mg base CX0 4 "_law_is_right" st__law_is_right ["n", "standing", "number", "is_named"] (spB K 4 ph__law_is_right) := ⟨f14, _, PySem.W.mg_of X G a14, k14, F14, b14, ok__law_is_right T T_standing_number T__law_seen F14⟩
  exact ok_law T T__law_deck T__law_draw T__law_pick T__law_mixed T__law_many T__law_rows T__law_number T__law_standing T__law_seen T__law_is_right F15
end K4

open PySem PySem.W PyProof.Rows in
set_option maxRecDepth 100000 in
set_option maxHeartbeats 0 in
theorem PySem.Challenge.cw_swapstops_k04_whole_numbers_of_standings_holds : PySem.Challenge.rw_swapstops_k04_whole_numbers_of_standings.Holds := by
  w_on; o_law; k_head; (case hw => w_witness2)
  k_fill
  refine BV.walkG (l := PySem.Challenge.rw_swapstops_k04_whole_numbers_of_standings) (k := 5) (x := "script") rfl rfl ⟨rfl, by decide, by decide⟩ (fun w h Y => PySem.W.kIn_of Y) ?F
  case F =>
    intro w mg fa h KX G hmg
    refine' K4.all_mk KX G hmg ?a0 ?l0 ?c0 ?k0 ?a1 ?l1 ?c1 ?k1 ?a2 ?l2 ?c2 ?k2 ?a3 ?l3 ?c3 ?k3 ?a4 ?l4 ?c4 ?k4 ?a5 ?l5 ?c5 ?k5 ?a6 ?l6 ?c6 ?k6 ?a7 ?l7 ?c7 ?k7 ?a8 ?l8 ?c8 ?k8 ?a9 ?l9 ?c9 ?k9 ?a10 ?l10 ?c10 ?k10 ?a11 ?l11 ?c11 ?k11 ?a12 ?l12 ?c12 ?k12 ?a13 ?l13 ?c13 ?k13 ?a14 ?l14 ?c14 ?k14 ?a15 ?l15 ?c15 ?k15 ?uA ?sA ?uK ?uX ?uB ?uT ?uC ?uU ?uS ?e1 ?e2 ?e3 ?e4 ?e5 ?e6 ?z_bool ?z_tuple ?z_isinstance ?z_abs ?z_int ?z_sorted ?z_range ?z_list ?z_len ?z_repr ?z_str
    (case a0 => first | k_is | rfl | decide +kernel)
    (case l0 => first | k_is | rfl | decide +kernel)
    (case c0 => first | k_is | rfl | decide +kernel)
    (case k0 => first | k_is | rfl | decide +kernel)
    (case a1 => first | k_is | rfl | decide +kernel)
    (case l1 => first | k_is | rfl | decide +kernel)
    (case c1 => first | k_is | rfl | decide +kernel)
    (case k1 => first | k_is | rfl | decide +kernel)
    (case a2 => first | k_is | rfl | decide +kernel)
    (case l2 => first | k_is | rfl | decide +kernel)
    (case c2 => first | k_is | rfl | decide +kernel)
    (case k2 => first | k_is | rfl | decide +kernel)
    (case a3 => first | k_is | rfl | decide +kernel)
    (case l3 => first | k_is | rfl | decide +kernel)
    (case c3 => first | k_is | rfl | decide +kernel)
    (case k3 => first | k_is | rfl | decide +kernel)
    (case a4 => first | k_is | rfl | decide +kernel)
    (case l4 => first | k_is | rfl | decide +kernel)
    (case c4 => first | k_is | rfl | decide +kernel)
    (case k4 => first | k_is | rfl | decide +kernel)
    (case a5 => first | k_is | rfl | decide +kernel)
    (case l5 => first | k_is | rfl | decide +kernel)
    (case c5 => first | k_is | rfl | decide +kernel)
    (case k5 => first | k_is | rfl | decide +kernel)
    (case a6 => first | k_is | rfl | decide +kernel)
    (case l6 => first | k_is | rfl | decide +kernel)
    (case c6 => first | k_is | rfl | decide +kernel)
    (case k6 => first | k_is | rfl | decide +kernel)
    (case a7 => first | k_is | rfl | decide +kernel)
    (case l7 => first | k_is | rfl | decide +kernel)
    (case c7 => first | k_is | rfl | decide +kernel)
    (case k7 => first | k_is | rfl | decide +kernel)
    (case a8 => first | k_is | rfl | decide +kernel)
    (case l8 => first | k_is | rfl | decide +kernel)
    (case c8 => first | k_is | rfl | decide +kernel)
    (case k8 => first | k_is | rfl | decide +kernel)
    (case a9 => first | k_is | rfl | decide +kernel)
    (case l9 => first | k_is | rfl | decide +kernel)
    (case c9 => first | k_is | rfl | decide +kernel)
    (case k9 => first | k_is | rfl | decide +kernel)
    (case a10 => first | k_is | rfl | decide +kernel)
    (case l10 => first | k_is | rfl | decide +kernel)
    (case c10 => first | k_is | rfl | decide +kernel)
    (case k10 => first | k_is | rfl | decide +kernel)
    (case a11 => first | k_is | rfl | decide +kernel)
    (case l11 => first | k_is | rfl | decide +kernel)
    (case c11 => first | k_is | rfl | decide +kernel)
    (case k11 => first | k_is | rfl | decide +kernel)
    (case a12 => first | k_is | rfl | decide +kernel)
    (case l12 => first | k_is | rfl | decide +kernel)
    (case c12 => first | k_is | rfl | decide +kernel)
    (case k12 => first | k_is | rfl | decide +kernel)
    (case a13 => first | k_is | rfl | decide +kernel)
    (case l13 => first | k_is | rfl | decide +kernel)
    (case c13 => first | k_is | rfl | decide +kernel)
    (case k13 => first | k_is | rfl | decide +kernel)
    (case a14 => first | k_is | rfl | decide +kernel)
    (case l14 => first | k_is | rfl | decide +kernel)
    (case c14 => first | k_is | rfl | decide +kernel)
    (case k14 => first | k_is | rfl | decide +kernel)
    (case a15 => first | k_is | rfl | decide +kernel)
    (case l15 => first | k_is | rfl | decide +kernel)
    (case c15 => first | k_is | rfl | decide +kernel)
    (case k15 => first | k_is | rfl | decide +kernel)
    (case uA => first | k_is | rfl | decide +kernel)
    (case sA => first | k_is | rfl | decide +kernel)
    (case uK => first | k_is | rfl | decide +kernel)
    (case uX => first | k_exc | k_is)
    (case uB => first | k_is | rfl | decide +kernel)
    (case uT => first | k_is | rfl | decide +kernel)
    (case uC => first | k_is | rfl | decide +kernel)
    (case uU => first | k_is | rfl | decide +kernel)
    (case uS => first | k_is | rfl | decide +kernel)
    (case e1 => first | k_is | rfl | decide +kernel)
    (case e2 => first | k_is | rfl | decide +kernel)
    (case e3 => first | k_is | rfl | decide +kernel)
    (case e4 => first | k_is | rfl | decide +kernel)
    (case e5 => first | k_is | rfl | decide +kernel)
    (case e6 => first | k_is | rfl | decide +kernel)
    (case z_bool => first | k_is | rfl | decide +kernel)
    (case z_tuple => first | k_is | rfl | decide +kernel)
    (case z_isinstance => first | k_is | rfl | decide +kernel)
    (case z_abs => first | k_is | rfl | decide +kernel)
    (case z_int => first | k_is | rfl | decide +kernel)
    (case z_sorted => first | k_is | rfl | decide +kernel)
    (case z_range => first | k_is | rfl | decide +kernel)
    (case z_list => first | k_is | rfl | decide +kernel)
    (case z_len => first | k_is | rfl | decide +kernel)
    (case z_repr => first | k_is | rfl | decide +kernel)
    (case z_str => first | k_is | rfl | decide +kernel)
