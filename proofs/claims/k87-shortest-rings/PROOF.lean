import PyProof.Rows.All
import HandS.ForMost
import HandS.ForExc
import HandS.SortInts
import HandS.Deep
import HandS.IsInst
import HandS.TupAny
import HandS.SetKeys
import HandS.More
import HandS.Conv
import HandS.Wide
import HandS.Words
import HandS.WordsExc
import HandS.Defaults
import HandS.Head0
import HandS.Head1
import HandS.Head2
import HandS.HeadEnd
import HandS.HeadHook1
import HandS.HeadHook2
import PySem.Challenge.RW_keptinstep_k87_shortest_rings
set_option Elab.async false
set_option linter.all false
set_option maxRecDepth 100000
/-! FL1: values, objects, the relation to the abstract heap. -/
namespace FL
open PySem PySem.Spec PyProof.Rows L2

/-- a value: tuples by what they hold, other objects by their place in the store -/
inductive D where
  | non | bl (b : Bool) | int (i : Int) | str (x : Str) | tup (ds : List D) | ref (r : Nat)

/-- an object of the store -/
inductive O where
  | lst (ds : List D)
  /-- the script: a list that nobody changes -/
  | scr (ds : List D)
  | dic (kvs : List (Key × D))
  | ins (c : Nat) (fs : List (Str × D))
abbrev Sto := List O
abbrev En := List (Option D)
def O.fix : O → Bool
  | .scr _ => true
  | _ => false

/-- how a computation ends -/
inductive Res (α : Type) where
  | ok (a : α) (st : Sto)
  | exc (c : Nat) (fs : List (Str × D)) (st : Sto)
  | bad
def Res.bind {α β : Type} (r : Res α) (g : α → Sto → Res β) : Res β := match r with
  | .ok a st => g a st
  | .exc c fs st => .exc c fs st
  | .bad => .bad
def Res.ofO {α : Type} : Option (α × Sto) → Res α
  | some (a, st) => .ok a st
  | none => .bad

/-- the written part, the classes' addresses -/
structure Rt where
  K : PySem.W.Frag
  cl : Nat → Addr

mutual
inductive Rel (R : Rt) (m : List Addr) (H : Hp) : V → D → Prop
  | non : Rel R m H .non .non
  | bl (b : Bool) : Rel R m H (.bl b) (.bl b)
  | int (i : Int) : Rel R m H (.int i) (.int i)
  | str (x : Str) : Rel R m H (.str x) (.str x)
  | tup {a : Addr} {xs : List V} {ds : List D} : SqT R.K H a xs → RelL R m H xs ds → Rel R m H (.ref a) (.tup ds)
  | ref {r : Nat} {a : Addr} : m[r]? = some a → Rel R m H (.ref a) (.ref r)
inductive RelL (R : Rt) (m : List Addr) (H : Hp) : List V → List D → Prop
  | nil : RelL R m H [] []
  | cons {v : V} {vs : List V} {d : D} {ds : List D} : Rel R m H v d → RelL R m H vs ds → RelL R m H (v :: vs) (d :: ds)
end

structure Ext (R : Rt) (m : List Addr) (H : Hp) (m' : List Addr) (H' : Hp) : Prop where
  pre : ∀ (r : Nat) (a : Addr), m[r]? = some a → m'[r]? = some a
  tup : ∀ (a : Addr) (xs : List V), SqT R.K H a xs → SqT R.K H' a xs
theorem Ext.refl {R : Rt} {m : List Addr} {H : Hp} : Ext R m H m H := ⟨fun _ _ h => h, fun _ _ h => h⟩
theorem Ext.trans {R : Rt} {m m1 m2 : List Addr} {H H1 H2 : Hp} (a : Ext R m H m1 H1) (b : Ext R m1 H1 m2 H2) : Ext R m H m2 H2 :=
  ⟨fun r x h => b.pre r x (a.pre r x h), fun x xs h => b.tup x xs (a.tup x xs h)⟩

section
variable {R : Rt} {m m' : List Addr} {H H' : Hp}
mutual
theorem Rel.mono (e : Ext R m H m' H') : ∀ {v : V} {d : D}, Rel R m H v d → Rel R m' H' v d
  | _, _, .non => .non
  | _, _, .bl b => .bl b
  | _, _, .int i => .int i
  | _, _, .str x => .str x
  | _, _, .tup h hs => .tup (e.tup _ _ h) (RelL.mono e hs)
  | _, _, .ref h => .ref (e.pre _ _ h)
theorem RelL.mono (e : Ext R m H m' H') : ∀ {vs : List V} {ds : List D}, RelL R m H vs ds → RelL R m' H' vs ds
  | _, _, .nil => .nil
  | _, _, .cons h hs => .cons (h.mono e) (hs.mono e)
end
theorem RelL.length : ∀ {vs : List V} {ds : List D}, RelL R m H vs ds → vs.length = ds.length
  | _, _, .nil => rfl
  | _, _, .cons _ h => by rw [List.length_cons, List.length_cons, h.length]
theorem RelL.get : ∀ {vs : List V} {ds : List D} {i : Nat} {d : D}, RelL R m H vs ds → ds[i]? = some d → ∃ v, vs[i]? = some v ∧ Rel R m H v d
  | _, _, 0, _, .cons h _, e => by
    rw [List.getElem?_cons_zero] at e
    cases e
    exact ⟨_, rfl, h⟩
  | _, _, i + 1, _, .cons _ h, e => by
    rw [List.getElem?_cons_succ] at e
    obtain ⟨v, e2, r⟩ := h.get e
    exact ⟨v, by rw [List.getElem?_cons_succ]; exact e2, r⟩
theorem RelL.getV : ∀ {vs : List V} {ds : List D} {i : Nat} {v : V}, RelL R m H vs ds → vs[i]? = some v → ∃ d, ds[i]? = some d ∧ Rel R m H v d
  | _, _, 0, _, .cons h _, e => by
    rw [List.getElem?_cons_zero] at e
    cases e
    exact ⟨_, rfl, h⟩
  | _, _, i + 1, _, .cons _ h, e => by
    rw [List.getElem?_cons_succ] at e
    obtain ⟨v, e2, r⟩ := h.getV e
    exact ⟨v, by rw [List.getElem?_cons_succ]; exact e2, r⟩
theorem RelL.append : ∀ {vs ws : List V} {ds es : List D}, RelL R m H vs ds → RelL R m H ws es → RelL R m H (vs ++ ws) (ds ++ es)
  | _, _, _, _, .nil, h => h
  | _, _, _, _, .cons a b, h => .cons a (b.append h)
theorem RelL.set {v : V} {d : D} (h : Rel R m H v d) : ∀ {vs : List V} {ds : List D} (i : Nat), RelL R m H vs ds → RelL R m H (vs.set i v) (ds.set i d)
  | _, _, _, .nil => .nil
  | _, _, 0, .cons _ b => .cons h b
  | _, _, i + 1, .cons a b => .cons a (b.set h i)
theorem RelL.take : ∀ {vs : List V} {ds : List D} (n : Nat), RelL R m H vs ds → RelL R m H (vs.take n) (ds.take n)
  | _, _, 0, _ => .nil
  | _, _, _ + 1, .nil => .nil
  | _, _, n + 1, .cons a b => .cons a (b.take n)
theorem RelL.drop : ∀ {vs : List V} {ds : List D} (n : Nat), RelL R m H vs ds → RelL R m H (vs.drop n) (ds.drop n)
  | _, _, 0, h => h
  | _, _, _ + 1, .nil => .nil
  | _, _, n + 1, .cons _ b => b.drop n
theorem RelL.reverse : ∀ {vs : List V} {ds : List D}, RelL R m H vs ds → RelL R m H vs.reverse ds.reverse
  | _, _, .nil => .nil
  | _, _, .cons a b => by
    rw [List.reverse_cons, List.reverse_cons]
    exact b.reverse.append (.cons a .nil)
theorem RelL.flat (n : Nat) {vs : List V} {ds : List D} (h : RelL R m H vs ds) : RelL R m H (List.replicate n vs).flatten (List.replicate n ds).flatten := by
  induction n with
  | zero => exact .nil
  | succ n ih =>
    rw [List.replicate_succ, List.replicate_succ, List.flatten_cons, List.flatten_cons]
    exact h.append ih
theorem RelL.ints (ns : List Int) : RelL R m H (ns.map V.int) (ns.map D.int) := by
  induction ns with
  | nil => exact .nil
  | cons n ns ih => exact .cons (.int n) ih
theorem RelL.strs (ns : List Str) : RelL R m H (ns.map V.str) (ns.map D.str) := by
  induction ns with
  | nil => exact .nil
  | cons n ns ih => exact .cons (.str n) ih
end

/-- one more entry by name or key -/
def RelKV (R : Rt) (m : List Addr) (H : Hp) {κ : Type} : List (κ × V) → List (κ × D) → Prop := Paired fun p q => p.1 = q.1 ∧ Rel R m H p.2 q.2
theorem RelKV.mono {R : Rt} {m m' : List Addr} {H H' : Hp} {κ : Type} (e : Ext R m H m' H') {xs : List (κ × V)} {ds : List (κ × D)} (h : RelKV R m H xs ds) : RelKV R m' H' xs ds :=
  Paired.mapP h fun _ _ p => ⟨p.1, p.2.mono e⟩

/-- a list of the written part -/
def Klst (K : PySem.W.Frag) (a : Addr) (xs : List V) : Prop :=
  ∃ (o : Obj) (its : Array Value) (n : Nat), K.lookup a = some o ∧ o.cls = .type "list" ∧ o.dict = none ∧ o.data = .seq its n ∧ its.size ≤ sizeLine ∧ Vals xs its.toList

/-- what stands at a is the object -/
def At (R : Rt) (m : List Addr) (H : Hp) (a : Addr) : O → Prop
  | .lst ds => ∃ xs, H a = some (.lst xs) ∧ RelL R m H xs ds
  | .scr ds => ∃ xs, ((∃ o, H a = some (.frz o (.lst xs))) ∨ Klst R.K a xs) ∧ RelL R m H xs ds
  | .dic kvs => ∃ ks, H a = some (.dK ks) ∧ RelKV R m H ks kvs
  | .ins c fs => ∃ dx fv, H a = some (.ins (R.cl c) dx fv) ∧ RelKV R m H fv fs
theorem At.mono {R : Rt} {m m' : List Addr} {H H' : Hp} {a : Addr} (e : Ext R m H m' H') (k : ∀ u, H a = some u → H' a = some u) : ∀ {o : O}, At R m H a o → At R m' H' a o
  | .lst ds, ⟨xs, h, r⟩ => ⟨xs, k _ h, r.mono e⟩
  | .scr ds, ⟨xs, h, r⟩ => ⟨xs, h.elim (fun ⟨o, h⟩ => .inl ⟨o, k _ h⟩) .inr, r.mono e⟩
  | .dic kvs, ⟨ks, h, r⟩ => ⟨ks, k _ h, RelKV.mono e r⟩
  | .ins c fs, ⟨dx, fv, h, r⟩ => ⟨dx, fv, k _ h, RelKV.mono e r⟩
/-- an object that may change stands in the heap -/
theorem At.chg {R : Rt} {m : List Addr} {H : Hp} {a : Addr} : ∀ {o : O}, At R m H a o → o.fix = false → Mut (H a)
  | .lst ds, ⟨xs, h, r⟩, _ => by
    rw [h]
    exact True.intro
  | .scr ds, _, hf => nomatch hf
  | .dic kvs, ⟨ks, h, r⟩, _ => by
    rw [h]
    exact True.intro
  | .ins c fs, ⟨dx, fv, h, r⟩, _ => by
    rw [h]
    exact True.intro

structure RelSt (R : Rt) (m : List Addr) (H : Hp) (st : Sto) : Prop where
  len : m.length = st.length
  at_ : ∀ (r : Nat) (o : O) (a : Addr), st[r]? = some o → m[r]? = some a → At R m H a o
  sep : ∀ (r r' : Nat) (a : Addr) (o o' : O), m[r]? = some a → m[r']? = some a → st[r]? = some o → st[r']? = some o' → o.fix = false → o'.fix = false → r = r'

section
variable {R : Rt} {m : List Addr} {H : Hp} {st : Sto}
theorem RelSt.get (S : RelSt R m H st) {r : Nat} {o : O} (e : st[r]? = some o) : ∃ a, m[r]? = some a ∧ At R m H a o := by
  obtain ⟨h1, _⟩ := List.getElem?_eq_some_iff.mp e
  have h2 : r < m.length := by rw [S.len]; exact h1
  exact ⟨m[r], List.getElem?_eq_getElem h2, S.at_ r o _ e (List.getElem?_eq_getElem h2)⟩
theorem RelSt.getA (S : RelSt R m H st) {r : Nat} {o : O} {a : Addr} (e : st[r]? = some o) (ea : m[r]? = some a) : At R m H a o := S.at_ r o a e ea
theorem mut_not_tup {K : PySem.W.Frag} {H : Hp} {a p : Addr} {xs : List V} {ho : HO} (mu : Mut (H p)) (h : SqT K H a xs) : SqT K (upd H p ho) a xs := by
  rcases h with (h | ⟨o, h⟩) | h
  · have : a ≠ p := fun e => by rw [← e, h] at mu; exact mu
    exact .inl (.inl (by rw [upd_ne this]; exact h))
  · have : a ≠ p := fun e => by rw [← e, h] at mu; exact mu
    exact .inl (.inr ⟨o, by rw [upd_ne this]; exact h⟩)
  · exact .inr h
theorem new_tup {K : PySem.W.Frag} {H : Hp} {a p : Addr} {xs : List V} {ho : HO} (n : H p = none) (h : SqT K H a xs) : SqT K (upd H p ho) a xs := by
  rcases h with (h | ⟨o, h⟩) | h
  · exact .inl (.inl (by rw [upd_ne (ne_of_none h n)]; exact h))
  · exact .inl (.inr ⟨o, by rw [upd_ne (ne_of_none h n)]; exact h⟩)
  · exact .inr h
theorem upd_keep {p a : Addr} {ho u : HO} (n : H p = none) (h : H a = some u) : upd H p ho a = some u := by
  rw [upd_ne (ne_of_none h n)]; exact h
/-- the heap alone grows -/
theorem Ext.fresh {p : Addr} {ho : HO} (n : H p = none) : Ext R m H m (upd H p ho) := ⟨fun _ _ h => h, fun _ _ h => new_tup n h⟩
theorem RelSt.fresh {p : Addr} {ho : HO} (S : RelSt R m H st) (n : H p = none) : RelSt R m (upd H p ho) st :=
  ⟨S.len, fun r o a e ea => (S.at_ r o a e ea).mono (Ext.fresh n) fun _ h => upd_keep n h, S.sep⟩
theorem Ext.alloc {p : Addr} {ho : HO} (n : H p = none) : Ext R m H (m ++ [p]) (upd H p ho) := ⟨fun r a h => by
  rw [List.getElem?_append_left (List.getElem?_eq_some_iff.mp h).1]; exact h, fun _ _ h => new_tup n h⟩
theorem app_get {α : Type} {l : List α} {x y : α} {r : Nat} (h : (l ++ [x])[r]? = some y) : l[r]? = some y ∨ (r = l.length ∧ y = x) := by
  by_cases hr : r < l.length
  · rw [List.getElem?_append_left hr] at h
    exact .inl h
  · rw [List.getElem?_append_right (Nat.le_of_not_lt hr)] at h
    by_cases h0 : r - l.length = 0
    · rw [h0] at h
      exact .inr ⟨by omega, (Option.some.inj h).symm⟩
    · obtain ⟨k, hk⟩ : ∃ k, r - l.length = k + 1 := ⟨r - l.length - 1, by omega⟩
      rw [hk] at h
      simp at h
theorem RelSt.alloc {p : Addr} {ho : HO} {o : O} (S : RelSt R m H st) (n : H p = none) (h : At R (m ++ [p]) (upd H p ho) p o) : RelSt R (m ++ [p]) (upd H p ho) (st ++ [o]) := by
  have old : ∀ {r : Nat} {u : O}, st[r]? = some u → u.fix = false → m[r]? ≠ some p := fun {r u} e hf ea => by
    have mu := (S.at_ r u p e ea).chg hf
    rw [n] at mu
    exact mu
  refine ⟨by rw [List.length_append, List.length_append, S.len]; rfl, fun r u a e ea => ?_, fun r r' a u u' ea ea' e e' hf hf' => ?_⟩
  · rcases app_get e with e | ⟨e1, e2⟩
    · rcases app_get ea with ea | ⟨ea1, _⟩
      · exact (S.at_ r u a e ea).mono (Ext.alloc n) fun _ h => upd_keep n h
      · have := (List.getElem?_eq_some_iff.mp e).1
        rw [S.len] at ea1
        omega
    · rcases app_get ea with ea | ⟨_, ea2⟩
      · have := (List.getElem?_eq_some_iff.mp ea).1
        rw [S.len] at this
        omega
      · rw [e2, ea2]
        exact h
  · have z : ∀ {r : Nat} {u : O}, (st ++ [o])[r]? = some u → u.fix = false → (m ++ [p])[r]? = some a → (st[r]? = some u ∧ m[r]? = some a ∧ a ≠ p) ∨ (r = st.length ∧ a = p) := fun {r u} e hf ea => by
      rcases app_get e with e | ⟨e1, e2⟩
      · rcases app_get ea with ea | ⟨ea1, _⟩
        · exact .inl ⟨e, ea, fun z => old e hf (z ▸ ea)⟩
        · have := (List.getElem?_eq_some_iff.mp e).1
          rw [S.len] at ea1
          omega
      · rcases app_get ea with ea | ⟨_, ea2⟩
        · have := (List.getElem?_eq_some_iff.mp ea).1
          rw [S.len] at this
          omega
        · exact .inr ⟨e1, ea2⟩
    rcases z e hf ea with ⟨a1, a2, a3⟩ | ⟨a1, a2⟩ <;> rcases z e' hf' ea' with ⟨b1, b2, b3⟩ | ⟨b1, b2⟩
    · exact S.sep r r' a u u' a2 b2 a1 b1 hf hf'
    · exact absurd b2 a3
    · exact absurd a2 b3
    · rw [a1, b1]
theorem Ext.write {a : Addr} {ho : HO} (mu : Mut (H a)) : Ext R m H m (upd H a ho) := ⟨fun _ _ h => h, fun _ _ h => mut_not_tup mu h⟩
theorem RelSt.write {r : Nat} {a : Addr} {ho : HO} {o o' : O} (S : RelSt R m H st) (e : st[r]? = some o) (ea : m[r]? = some a) (hf : o.fix = false) (hf' : o'.fix = false) (h : At R m (upd H a ho) a o') :
    RelSt R m (upd H a ho) (st.set r o') := by
  have mu := (S.at_ r o a e ea).chg hf
  refine ⟨by rw [List.length_set]; exact S.len, fun q u b eq eb => ?_, fun q q' b u u' eb eb' eq eq' hq hq' => ?_⟩
  · rw [List.getElem?_set] at eq
    split at eq
    · rename_i hrq
      subst hrq
      split at eq
      · cases eq
        rw [ea] at eb
        cases eb
        exact h
      · cases eq
    · rename_i hrq
      have A := S.at_ q u b eq eb
      by_cases hb : b = a
      · subst hb
        cases hu : u.fix with
        | false => exact absurd (S.sep r q b o u ea eb e eq hf hu) hrq
        | true =>
          cases u with
          | scr ds =>
            obtain ⟨xs, hx, rl⟩ := A
            refine ⟨xs, .inr ?_, rl.mono (Ext.write mu)⟩
            rcases hx with ⟨ob, hx⟩ | hx
            · rw [hx] at mu
              exact mu.elim
            · exact hx
          | lst _ => cases hu
          | dic _ => cases hu
          | ins _ _ => cases hu
      · exact A.mono (Ext.write mu) fun v hv => by rw [upd_ne hb]; exact hv
  · have z : ∀ {q : Nat} {u : O}, (st.set r o')[q]? = some u → u.fix = false → ∃ v, st[q]? = some v ∧ v.fix = false := fun {q u} eq hq => by
      rw [List.getElem?_set] at eq
      split at eq
      · rename_i hrq
        subst hrq
        exact ⟨o, e, hf⟩
      · exact ⟨u, eq, hq⟩
    obtain ⟨v, e1, h1⟩ := z eq hq
    obtain ⟨v', e2, h2⟩ := z eq' hq'
    exact S.sep q q' b v v' eb eb' e1 e2 h1 h2
end

/-- the slots -/
def RelE (R : Rt) (m : List Addr) (H : Hp) (σ : L2.St) (env : En) : Prop :=
  σ.length = env.length ∧ ∀ (i : Nat) (d : D), env[i]? = some (some d) → ∃ v, σ[i]? = some (some v) ∧ Rel R m H v d
theorem RelE.mono {R : Rt} {m m' : List Addr} {H H' : Hp} {σ : L2.St} {env : En} (e : Ext R m H m' H') (h : RelE R m H σ env) : RelE R m' H' σ env :=
  ⟨h.1, fun i d q => let ⟨v, a, b⟩ := h.2 i d q; ⟨v, a, b.mono e⟩⟩
theorem RelE.set {R : Rt} {m : List Addr} {H : Hp} {σ : L2.St} {env : En} {v : V} {d : D} (i : Nat) (h : RelE R m H σ env) (r : Rel R m H v d) : RelE R m H (σ.set i (some v)) (env.set i (some d)) := by
  refine ⟨by rw [List.length_set, List.length_set]; exact h.1, fun j d' q => ?_⟩
  rw [List.getElem?_set] at q
  split at q
  · rename_i hij
    subst hij
    split at q
    · rename_i hl
      cases q
      exact ⟨v, by rw [List.getElem?_set_self (by rw [h.1]; exact hl)], r⟩
    · cases q
  · rename_i hij
    obtain ⟨w, a, b⟩ := h.2 j d' q
    exact ⟨w, by rw [List.getElem?_set_ne hij]; exact a, b⟩
/-- an exception -/
def RelX (R : Rt) (m : List Addr) (H : Hp) (cls : Value) (dx : Option Addr) (c : Nat) (fs : List (Str × D)) : Prop :=
  cls = .ref (R.cl c) ∧ ∃ d fv, dx = some d ∧ H d = some (.xd fv) ∧ RelKV R m H fv fs

/-- what is asked of an end -/
def Fin {α β : Type} (R : Rt) (W : WX) (rel : List Addr → Hp → β → α → Prop) (m : List Addr) (H : Hp) (σ : L2.St) (Q : β → Hp → Prop) : Res α → Prop
  | .ok d st' => ∀ m' H' v, Ext R m H m' H' → RelSt R m' H' st' → rel m' H' v d → Q v H'
  | .exc c fs st' => ∀ m' H' cls dx, Ext R m H m' H' → RelSt R m' H' st' → RelX R m' H' cls dx c fs → W cls dx σ H'
  | .bad => False
section
variable {α β γ δ : Type} {R : Rt} {W : WX} {rel : List Addr → Hp → β → α → Prop} {rel2 : List Addr → Hp → δ → γ → Prop} {m m' : List Addr} {H H' : Hp} {σ : L2.St} {Q : β → Hp → Prop} {Q2 : δ → Hp → Prop}
theorem Fin.mono (e : Ext R m H m' H') {r : Res α} (h : Fin R W rel m H σ Q r) : Fin R W rel m' H' σ Q r := by
  cases r with
  | ok d st => exact fun m2 H2 v e2 => h m2 H2 v (e.trans e2)
  | exc c fs st => exact fun m2 H2 cls dx e2 => h m2 H2 cls dx (e.trans e2)
  | bad => exact h
theorem Fin.bind {r : Res α} {g : α → Sto → Res γ} (h : Fin R W rel2 m H σ Q2 (r.bind g))
    (k : ∀ d st' m' H' v, Ext R m H m' H' → RelSt R m' H' st' → rel m' H' v d → Fin R W rel2 m' H' σ Q2 (g d st') → Q v H') : Fin R W rel m H σ Q r := by
  cases r with
  | ok d st => exact fun m' H' v e s x => k d st m' H' v e s x (Fin.mono e h)
  | exc c fs st => exact h
  | bad => exact h
theorem Fin.ok {d : α} {st : Sto} {v : β} (h : Fin R W rel m H σ Q (.ok d st)) (S : RelSt R m H st) (r : rel m H v d) : Q v H := h m H v Ext.refl S r
end

/-! ### readings -/
def tE (R : Rt) (W : WX) (f : En → Sto → Res D) : TE := fun σ H Q => ∃ m env st, RelE R m H σ env ∧ RelSt R m H st ∧ Fin R W (Rel R) m H σ Q (f env st)
def tA (R : Rt) (W : WX) (f : En → Sto → Res (List D)) : TA := fun σ H Q => ∃ m env st, RelE R m H σ env ∧ RelSt R m H st ∧ Fin R W (RelL R) m H σ Q (f env st)
abbrev EqB : List Addr → Hp → Bool → Bool → Prop := fun _ _ b b' => b = b'
def tT (R : Rt) (W : WX) (f : En → Sto → Res Bool) : TT := fun σ H Q => ∃ m env st, RelE R m H σ env ∧ RelSt R m H st ∧ Fin R W EqB m H σ Q (f env st)

theorem PE.imp {X : Cx} {e : Expr} {t t' : TE} (h : PE X e t) (k : ∀ σ H Q, t' σ H Q → t σ H Q) : PE X e t' := ⟨fun pins s σ H Q I q => h.run pins s σ H Q I (k σ H Q q)⟩
theorem PT.imp {X : Cx} {e : Expr} {t t' : TT} (h : PT X e t) (k : ∀ σ H Q, t' σ H Q → t σ H Q) : PT X e t' := ⟨fun pins s σ H Q I q => h.run pins s σ H Q I (k σ H Q q)⟩
theorem PA.imp {X : Cx} {e : List Expr} {t t' : TA} (h : PA X e t) (k : ∀ σ H Q, t' σ H Q → t σ H Q) : PA X e t' := ⟨fun pos pins s σ H Q I q => h.run pos pins s σ H Q I (k σ H Q q)⟩
theorem PS.imp {X : Cx} {e : Stmt} {t t' : TS} (h : PS X e t) (k : ∀ D σ H, t' D σ H → t D σ H) : PS X e t' := ⟨fun pins s σ H D I q => h.run pins s σ H D I (k D σ H q)⟩
theorem PSs.imp {X : Cx} {e : List Stmt} {t t' : TS} (h : PSs X e t) (k : ∀ D σ H, t' D σ H → t D σ H) : PSs X e t' := ⟨fun pins s σ H D I q => h.run pins s σ H D I (k D σ H q)⟩
end FL
set_option Elab.async false
set_option linter.all false
set_option maxRecDepth 100000
set_option maxHeartbeats 1000000
/-! FL2: operations on values and stores, each with its rule. -/
namespace FL
open PySem PySem.Spec PyProof.Rows L2

/-! ### data -/
mutual
def D.py : D → Option PyData
  | .non => some .none
  | .bl b => some (.bool b)
  | .int i => some (.int i)
  | .str x => some (.str x)
  | .tup ds => (D.pyL ds).map .tuple
  | .ref _ => none
def D.pyL : List D → Option (List PyData)
  | [] => some []
  | d :: ds => match D.py d, D.pyL ds with
    | some p, some ps => some (p :: ps)
    | _, _ => none
end
/-- a list's items are looked at, one level -/
def pyTop (st : Sto) : D → Option PyData
  | .ref r => match st[r]? with
    | some (.lst ds) => (D.pyL ds).map .list
    | some (.scr ds) => (D.pyL ds).map .list
    | _ => none
  | d => d.py

section
variable {R : Rt} {m m' : List Addr} {H H' : Hp} {st : Sto}
mutual
theorem Rel.dp : ∀ {v : V} {d : D} {p : PyData}, Rel R m H v d → d.py = some p → Dp R.K H v p
  | _, _, _, .non, e => by cases e; exact .non
  | _, _, _, .bl b, e => by cases e; exact .bl b
  | _, _, _, .int i, e => by cases e; exact .int i
  | _, _, _, .str x, e => by cases e; exact .str x
  | _, .tup ds, _, .tup h hs, e => by
    rw [D.py] at e
    cases q : D.pyL ds with
    | none => rw [q] at e; cases e
    | some ps =>
      rw [q] at e
      cases e
      exact .tup h (RelL.dp hs q)
  | _, _, _, .ref _, e => by cases e
theorem RelL.dp : ∀ {vs : List V} {ds : List D} {ps : List PyData}, RelL R m H vs ds → D.pyL ds = some ps → DpAll R.K H vs ps
  | _, _, _, .nil, e => by cases e; exact .nil
  | _, d :: ds, _, .cons h hs, e => by
    rw [D.pyL] at e
    cases q : D.py d with
    | none => rw [q] at e; cases e
    | some p =>
      cases q2 : D.pyL ds with
      | none => rw [q, q2] at e; cases e
      | some ps =>
        rw [q, q2] at e
        cases e
        exact .cons (h.dp q) (hs.dp q2)
end
theorem sqlS {ds : List D} {a : Addr} (h : At R m H a (.lst ds) ∨ At R m H a (.scr ds)) : ∃ xs, SqL R.K H a xs ∧ RelL R m H xs ds := by
  rcases h with ⟨xs, h, r⟩ | ⟨xs, h, r⟩
  · exact ⟨xs, SqL.of h, r⟩
  · rcases h with ⟨o, h⟩ | h
    · exact ⟨xs, .inl (.inr ⟨o, h⟩), r⟩
    · exact ⟨xs, .inr h, r⟩
/-- the items of a list -/
def lstOf (st : Sto) (r : Nat) : Option (List D) := match st[r]? with
  | some (.lst ds) => some ds
  | some (.scr ds) => some ds
  | _ => none
theorem lstOf_sq (S : RelSt R m H st) {r : Nat} {a : Addr} {ds : List D} (e : lstOf st r = some ds) (ea : m[r]? = some a) : ∃ xs, SqL R.K H a xs ∧ RelL R m H xs ds := by
  unfold lstOf at e
  split at e
  · cases e
    exact sqlS (.inl (S.at_ r _ a (by assumption) ea))
  · cases e
    exact sqlS (.inr (S.at_ r _ a (by assumption) ea))
  · cases e
theorem Rel.dpTop (S : RelSt R m H st) {v : V} {d : D} {p : PyData} (h : Rel R m H v d) (e : pyTop st d = some p) : Dp R.K H v p := by
  cases d with
  | ref r =>
    cases h with
    | ref ha =>
      have z : ∃ ds ps, lstOf st r = some ds ∧ D.pyL ds = some ps ∧ p = .list ps := by
        dsimp only [pyTop] at e
        unfold lstOf
        split at e
        · rename_i ds hq
          cases q : D.pyL ds with
          | none => rw [q] at e; cases e
          | some ps => rw [q] at e; cases e; exact ⟨ds, ps, rfl, q, rfl⟩
        · rename_i ds hq
          cases q : D.pyL ds with
          | none => rw [q] at e; cases e
          | some ps => rw [q] at e; cases e; exact ⟨ds, ps, rfl, q, rfl⟩
        · cases e
      obtain ⟨ds, ps, e1, e2, rfl⟩ := z
      obtain ⟨xs, sq, rl⟩ := lstOf_sq S e1 ha
      exact .lst sq (rl.dp e2)
  | non => exact h.dp e
  | bl b => exact h.dp e
  | int i => exact h.dp e
  | str x => exact h.dp e
  | tup ds => exact h.dp e
end

/-! ### the shape of a rule on values -/
/-- what an operation on two values gives -/
abbrev Op2 := D → D → Sto → Option (D × Sto)
abbrev OpN := List D → Sto → Option (D × Sto)
/-- what is wanted behind -/
abbrev Bk (R : Rt) (m : List Addr) (H : Hp) (st' : Sto) (d : D) (Q : VK) : Prop := ∀ m' H' v, Ext R m H m' H' → RelSt R m' H' st' → Rel R m' H' v d → Q v H'
def rS (R : Rt) (g : Op2) : R2 := fun v1 v2 H Q => ∃ m st d1 d2 d st', RelSt R m H st ∧ Rel R m H v1 d1 ∧ Rel R m H v2 d2 ∧ g d1 d2 st = some (d, st') ∧ Bk R m H st' d Q
def rN (R : Rt) (g : OpN) : List V → Hp → VK → Prop := fun vs H Q => ∃ m st ds d st', RelSt R m H st ∧ RelL R m H vs ds ∧ g ds st = some (d, st') ∧ Bk R m H st' d Q
def rM (R : Rt) (g : D → OpN) : V → List V → Hp → VK → Prop := fun v vs H Q => ∃ m st d0 ds d st', RelSt R m H st ∧ Rel R m H v d0 ∧ RelL R m H vs ds ∧ g d0 ds st = some (d, st') ∧ Bk R m H st' d Q
theorem OpR.imp {X : Cx} {f : Value → Value → Sem Value} {r r' : R2} (h : OpR X f r) (k : ∀ v1 v2 H Q, r' v1 v2 H Q → r v1 v2 H Q) : OpR X f r' := fun pins s σ H x y v u Q I rx ry q => h pins s σ H x y v u Q I rx ry (k _ _ _ _ q)
theorem CallR.imp {X : Cx} {f : Value} {r r' : List V → Hp → VK → Prop} (h : CallR X f r) (k : ∀ vs H Q, r' vs H Q → r vs H Q) : CallR X f r' := fun pins s σ H xs us Q I rx q => h pins s σ H xs us Q I rx (k _ _ _ q)
theorem CallR.or {X : Cx} {f : Value} {r r' : List V → Hp → VK → Prop} (h : CallR X f r) (h' : CallR X f r') : CallR X f (fun vs H Q => r vs H Q ∨ r' vs H Q) := fun pins s σ H xs us Q I rx q =>
  q.elim (h pins s σ H xs us Q I rx) (h' pins s σ H xs us Q I rx)
theorem MtR.imp {X : Cx} {f : String} {r r' : V → List V → Hp → VK → Prop} (h : MtR X f r) (k : ∀ v vs H Q, r' v vs H Q → r v vs H Q) : MtR X f r' := fun pins s σ H x xs v us Q I rx rv q => h pins s σ H x xs v us Q I rx rv (k _ _ _ _ q)
theorem IxR.imp {X : Cx} {r r' : R2} (h : IxR X r) (k : ∀ v1 v2 H Q, r' v1 v2 H Q → r v1 v2 H Q) : IxR X r' := fun va sl pins s σ H x y v u Q I rx ry q => h va sl pins s σ H x y v u Q I rx ry (k _ _ _ _ q)
theorem IxR.or {X : Cx} {r r' : R2} (h : IxR X r) (h' : IxR X r') : IxR X (fun v1 v2 H Q => r v1 v2 H Q ∨ r' v1 v2 H Q) := fun va sl pins s σ H x y v u Q I rx ry q hs =>
  q.elim (fun q => h va sl pins s σ H x y v u Q I rx ry q hs) fun q => h' va sl pins s σ H x y v u Q I rx ry q hs

section
variable {R : Rt} {m : List Addr} {H : Hp} {st st' : Sto} {Q : VK} {d : D}
/-- the store as it was -/
theorem Bk.same {v : V} (b : Bk R m H st d Q) (S : RelSt R m H st) (r : Rel R m H v d) : Q v H := b m H v Ext.refl S r
/-- a new object -/
theorem Bk.new {o : O} {ho : HO} {p : Addr} (b : Bk R m H (st ++ [o]) (.ref st.length) Q) (S : RelSt R m H st) (n : H p = none) (h : At R (m ++ [p]) (upd H p ho) p o) : Q (.ref p) (upd H p ho) :=
  b (m ++ [p]) (upd H p ho) (.ref p) (Ext.alloc n) (S.alloc n h) (.ref (by rw [← S.len, List.getElem?_append_right (Nat.le_refl _), Nat.sub_self]; rfl))
theorem Bk.newL {ds : List D} {xs : List V} {p : Addr} (b : Bk R m H (st ++ [.lst ds]) (.ref st.length) Q) (S : RelSt R m H st) (n : H p = none) (r : RelL R m H xs ds) : Q (.ref p) (upd H p (.lst xs)) :=
  b.new S n ⟨xs, upd_same, r.mono (Ext.alloc n)⟩
theorem Bk.newT {ds : List D} {xs : List V} {p : Addr} (b : Bk R m H st (.tup ds) Q) (S : RelSt R m H st) (n : H p = none) (r : RelL R m H xs ds) : Q (.ref p) (upd H p (.tup xs)) :=
  b m (upd H p (.tup xs)) (.ref p) (Ext.fresh n) (S.fresh n) (.tup (SqT.of upd_same) (r.mono (Ext.fresh n)))
/-- an object changed -/
theorem Bk.put {r : Nat} {a : Addr} {o o' : O} {ho : HO} {v : V} (b : Bk R m H (st.set r o') d Q) (S : RelSt R m H st) (e : st[r]? = some o) (ea : m[r]? = some a) (hf : o.fix = false) (hf' : o'.fix = false)
    (h : At R m (upd H a ho) a o') (rv : Rel R m H v d) : Q v (upd H a ho) :=
  b m (upd H a ho) v (Ext.write ((S.at_ r o a e ea).chg hf)) (S.write e ea hf hf' h) (rv.mono (Ext.write ((S.at_ r o a e ea).chg hf)))
theorem Bk.putL {r : Nat} {a : Addr} {ds es : List D} {xs : List V} {v : V} (b : Bk R m H (st.set r (.lst es)) d Q) (S : RelSt R m H st) (e : st[r]? = some (.lst ds)) (ea : m[r]? = some a)
    (h : RelL R m H xs es) (rv : Rel R m H v d) : Q v (upd H a (.lst xs)) :=
  b.put S e ea rfl rfl ⟨xs, upd_same, h.mono (Ext.write ((S.at_ r _ a e ea).chg rfl))⟩ rv
end

/-! ### arithmetic -/
def gAdd : Op2 := fun x y st => match x, y with
  | .int i, .int j => some (.int (i + j), st)
  | .str a, .str b => if a.length + b.length ≤ sizeLine then some (.str (a ++ b), st) else none
  | .tup xs, .tup ys => if xs.length + ys.length ≤ sizeLine then some (.tup (xs ++ ys), st) else none
  | .ref r, .ref q => match st[r]?, st[q]? with
    | some (.lst xs), some (.lst ys) => if xs.length + ys.length ≤ sizeLine then some (.ref st.length, st ++ [.lst (xs ++ ys)]) else none
    | _, _ => none
  | _, _ => none
def gSub : Op2 := fun x y st => match x, y with
  | .int i, .int j => some (.int (i - j), st)
  | _, _ => none
def mulOk (i j : Int) : Bool := (decide (-(2 ^ 64) < i) && decide (i < 2 ^ 64)) || (decide (-(2 ^ 64) < j) && decide (j < 2 ^ 64))
def gMul : Op2 := fun x y st => match x, y with
  | .int i, .int j => if mulOk i j then some (.int (i * j), st) else none
  | .ref r, .int k => match st[r]? with
    | some (.lst xs) => if -(2 ^ 63) ≤ k ∧ k < 2 ^ 63 ∧ xs.length * k.toNat ≤ sizeLine then some (.ref st.length, st ++ [.lst (List.replicate k.toNat xs).flatten]) else none
    | _ => none
  | _, _ => none
def gMod : Op2 := fun x y st => match x, y with
  | .int i, .int j => if 0 < j then some (.int (i % j), st) else none
  | _, _ => none
def gDiv : Op2 := fun x y st => match x, y with
  | .int i, .int j => if 0 < j ∧ j < 1073741824 then some (.int (i / j), st) else none
  | _, _ => none
def gPow : Op2 := fun x y st => match x, y with
  | .int i, .int j => if 0 ≤ j ∧ j ≤ 1000000 ∧ i.natAbs < 2 ^ 64 then some (.int (i ^ j.toNat), st) else none
  | _, _ => none

section
variable {X : Cx} {R : Rt}
theorem o_add (hK : X.K = R.K) : OpR X (binaryOp .Add) (rS R gAdd) := by
  refine OpR.imp (OpR.or op_add (OpR.or op_add_str (OpR.or op_catA op_cat))) fun v1 v2 H Q h => ?_
  obtain ⟨m, st, d1, d2, d, st', S, r1, r2, e, b⟩ := h
  unfold gAdd at e
  split at e
  · cases e
    cases r1; cases r2
    exact .inl ⟨_, _, rfl, rfl, b.same S (.int _)⟩
  · split at e
    · rename_i hl
      cases e
      cases r1; cases r2
      exact .inr (.inl ⟨_, _, rfl, rfl, hl, b.same S (.str _)⟩)
    · cases e
  · split at e
    · rename_i xs ys hl
      cases e
      cases r1 with
      | @tup a us _ ha hs =>
        cases r2 with
        | @tup a' ws _ ha' hs' =>
          refine .inr (.inr (.inl ⟨a, a', us, ws, rfl, rfl, hK ▸ ha, hK ▸ ha', by rw [hs.length, hs'.length]; exact hl, fun z => ?_, fun z z' => ?_, fun _ _ p n => b.newT S n (hs.append hs')⟩))
          · subst z
            cases hs
            exact b.same S (.tup ha' hs')
          · subst z'
            cases hs'
            rw [List.append_nil] at b
            exact b.same S (.tup ha hs)
    · cases e
  · rename_i r q
    split at e
    · rename_i xs ys h1 h2
      split at e
      · rename_i hl
        cases e
        cases r1 with
        | ref ha =>
          cases r2 with
          | ref ha' =>
            obtain ⟨us, hu, ru⟩ := S.at_ _ _ _ h1 ha
            obtain ⟨ws, hw, rw_⟩ := S.at_ _ _ _ h2 ha'
            exact .inr (.inr (.inr ⟨_, _, us, ws, rfl, rfl, hu, hw, by rw [ru.length, rw_.length]; exact hl, fun p n => b.newL S n (ru.append rw_)⟩))
      · cases e
    · cases e
  · cases e
theorem o_sub : OpR X (binaryOp .Sub) (rS R gSub) := by
  refine OpR.imp op_sub fun v1 v2 H Q h => ?_
  obtain ⟨m, st, d1, d2, d, st', S, r1, r2, e, b⟩ := h
  unfold gSub at e
  split at e
  · cases e
    cases r1; cases r2
    exact ⟨_, _, rfl, rfl, b.same S (.int _)⟩
  · cases e
theorem mulOk_iff {i j : Int} (h : mulOk i j = true) : CMul i j := by
  unfold mulOk at h
  simp only [Bool.or_eq_true, Bool.and_eq_true, decide_eq_true_eq] at h
  exact h
theorem o_mul : OpR X (binaryOp .Mult) (rS R gMul) := by
  refine OpR.imp (OpR.or op_mul op_rep) fun v1 v2 H Q h => ?_
  obtain ⟨m, st, d1, d2, d, st', S, r1, r2, e, b⟩ := h
  unfold gMul at e
  split at e
  · split at e
    · rename_i hc
      cases e
      cases r1; cases r2
      exact .inl ⟨_, _, rfl, rfl, mulOk_iff hc, b.same S (.int _)⟩
    · cases e
  · split at e
    · rename_i xs h1
      split at e
      · rename_i hl
        cases e
        cases r1 with
        | ref ha =>
          cases r2
          obtain ⟨us, hu, ru⟩ := S.at_ _ _ _ h1 ha
          exact .inr ⟨_, _, us, rfl, rfl, hu, hl.1, hl.2.1, by rw [ru.length]; exact hl.2.2, fun p n => b.newL S n (ru.flat _)⟩
      · cases e
    · cases e
  · cases e
theorem o_mod : OpR X (binaryOp .Mod) (rS R gMod) := by
  refine OpR.imp op_mod fun v1 v2 H Q h => ?_
  obtain ⟨m, st, d1, d2, d, st', S, r1, r2, e, b⟩ := h
  unfold gMod at e
  split at e
  · split at e
    · rename_i hc
      cases e
      cases r1; cases r2
      exact ⟨_, _, rfl, rfl, hc, b.same S (.int _)⟩
    · cases e
  · cases e
theorem o_div : OpR X (binaryOp .FloorDiv) (rS R gDiv) := by
  refine OpR.imp op_fdiv fun v1 v2 H Q h => ?_
  obtain ⟨m, st, d1, d2, d, st', S, r1, r2, e, b⟩ := h
  unfold gDiv at e
  split at e
  · split at e
    · rename_i hc
      cases e
      cases r1; cases r2
      exact ⟨_, _, rfl, rfl, hc, b.same S (.int _)⟩
    · cases e
  · cases e
theorem o_pow : OpR X (binaryOp .Pow) (rS R gPow) := by
  refine OpR.imp op_pow fun v1 v2 H Q h => ?_
  obtain ⟨m, st, d1, d2, d, st', S, r1, r2, e, b⟩ := h
  unfold gPow at e
  split at e
  · split at e
    · rename_i hc
      cases e
      cases r1; cases r2
      exact ⟨_, _, rfl, rfl, hc, b.same S (.int _)⟩
    · cases e
  · cases e

/-! ### comparisons -/
def gEq : Op2 := fun x y st => match pyTop st x, pyTop st y with
  | some p, some q => if SeqAt.shaped p && SeqAt.shaped q then some (.bl (PyData.eqv p q), st) else none
  | _, _ => none
def gNe : Op2 := fun x y st => match pyTop st x, pyTop st y with
  | some p, some q => if SeqAt.shaped p && SeqAt.shaped q then some (.bl (!PyData.eqv p q), st) else none
  | _, _ => none
def gCmp (p : Int → Int → Bool) : Op2 := fun x y st => match x, y with
  | .int i, .int j => some (.bl (p i j), st)
  | _, _ => none
abbrev gLt : Op2 := gCmp fun i j => decide (i < j)
abbrev gLe : Op2 := gCmp fun i j => decide (i ≤ j)
abbrev gGt : Op2 := gCmp fun i j => decide (j < i)
abbrev gGe : Op2 := gCmp fun i j => decide (j ≤ i)
def D.isN : D → Bool
  | .non => true
  | _ => false
def gIsN : Op2 := fun x y st => match y with
  | .non => some (.bl x.isN, st)
  | _ => none
def gNotN : Op2 := fun x y st => match y with
  | .non => some (.bl (!x.isN), st)
  | _ => none
/-- in: a list of data -/
def gIn : Op2 := fun x y st => match x.py, pyTop st y with
  | some p, some (.list qs) => if SeqAt.shaped p && SeqAt.shaped (.list qs) then some (.bl (qs.any fun z => PyData.eqv z p), st) else none
  | _, _ => none
def gNotIn : Op2 := fun x y st => match x.py, pyTop st y with
  | some p, some (.list qs) => if SeqAt.shaped p && SeqAt.shaped (.list qs) then some (.bl (!qs.any fun z => PyData.eqv z p), st) else none
  | _, _ => none
theorem o_eq (hK : X.K = R.K) (hu : X.A.units + 64 < cLine) : OpR X (compareOp .Eq) (rS R gEq) := by
  refine OpR.imp (op_eqD hu) fun v1 v2 H Q h => ?_
  obtain ⟨m, st, d1, d2, d, st', S, r1, r2, e, b⟩ := h
  unfold gEq at e
  split at e
  · rename_i p q e1 e2
    split at e
    · rename_i hs
      rw [Bool.and_eq_true] at hs
      cases e
      exact ⟨p, q, hK ▸ r1.dpTop S e1, hK ▸ r2.dpTop S e2, hs.1, hs.2, b.same S (.bl _)⟩
    · cases e
  · cases e
theorem o_ne (hK : X.K = R.K) (hu : X.A.units + 64 < cLine) : OpR X (compareOp .NotEq) (rS R gNe) := by
  refine OpR.imp (op_neD hu) fun v1 v2 H Q h => ?_
  obtain ⟨m, st, d1, d2, d, st', S, r1, r2, e, b⟩ := h
  unfold gNe at e
  split at e
  · rename_i p q e1 e2
    split at e
    · rename_i hs
      rw [Bool.and_eq_true] at hs
      cases e
      exact ⟨p, q, hK ▸ r1.dpTop S e1, hK ▸ r2.dpTop S e2, hs.1, hs.2, b.same S (.bl _)⟩
    · cases e
  · cases e
theorem cmp_imp {g : Int → Int → Bool} {v1 v2 : V} {H : Hp} {Q : VK} (h : rS R (gCmp g) v1 v2 H Q) : rI0 (fun i j => .bl (g i j)) v1 v2 H Q := by
  obtain ⟨m, st, d1, d2, d, st', S, r1, r2, e, b⟩ := h
  unfold gCmp at e
  split at e
  · cases e
    cases r1; cases r2
    exact ⟨_, _, rfl, rfl, b.same S (.bl _)⟩
  · cases e
theorem o_lt : OpR X (compareOp .Lt) (rS R gLt) := OpR.imp op_lt fun _ _ _ _ h => cmp_imp h
theorem o_le : OpR X (compareOp .LtE) (rS R gLe) := OpR.imp op_le fun _ _ _ _ h => cmp_imp h
theorem o_gt : OpR X (compareOp .Gt) (rS R gGt) := OpR.imp op_gt fun _ _ _ _ h => cmp_imp h
theorem o_ge : OpR X (compareOp .GtE) (rS R gGe) := OpR.imp op_ge fun _ _ _ _ h => cmp_imp h
theorem Rel.isN {m : List Addr} {H : Hp} {v : V} {d : D} (r : Rel R m H v d) : decide (v = .non) = d.isN := by
  cases r <;> first | rfl | exact decide_eq_false (fun z => nomatch z)
theorem o_isN : OpR X (compareOp .Is) (rS R gIsN) := by
  refine OpR.imp op_isN fun v1 v2 H Q h => ?_
  obtain ⟨m, st, d1, d2, d, st', S, r1, r2, e, b⟩ := h
  unfold gIsN at e
  split at e
  · cases e
    cases r2
    exact ⟨rfl, b.same S (r1.isN ▸ .bl _)⟩
  · cases e
theorem o_notN : OpR X (compareOp .IsNot) (rS R gNotN) := by
  refine OpR.imp op_notN fun v1 v2 H Q h => ?_
  obtain ⟨m, st, d1, d2, d, st', S, r1, r2, e, b⟩ := h
  unfold gNotN at e
  split at e
  · cases e
    cases r2
    exact ⟨rfl, b.same S (r1.isN ▸ .bl _)⟩
  · cases e
theorem o_in (hK : X.K = R.K) (hu : X.A.units + 65 < cLine) : OpR X (compareOp .In) (rS R gIn) := by
  refine OpR.imp (op_inD hu) fun v1 v2 H Q h => ?_
  obtain ⟨m, st, d1, d2, d, st', S, r1, r2, e, b⟩ := h
  unfold gIn at e
  split at e
  · rename_i p qs e1 e2
    split at e
    · rename_i hs
      rw [Bool.and_eq_true] at hs
      cases e
      exact ⟨p, qs, hK ▸ r1.dp e1, hK ▸ r2.dpTop S e2, hs.1, hs.2, b.same S (.bl _)⟩
    · cases e
  · cases e
theorem o_notIn (hK : X.K = R.K) (hu : X.A.units + 65 < cLine) : OpR X (compareOp .NotIn) (rS R gNotIn) := by
  refine OpR.imp (op_notInD hu) fun v1 v2 H Q h => ?_
  obtain ⟨m, st, d1, d2, d, st', S, r1, r2, e, b⟩ := h
  unfold gNotIn at e
  split at e
  · rename_i p qs e1 e2
    split at e
    · rename_i hs
      rw [Bool.and_eq_true] at hs
      cases e
      exact ⟨p, qs, hK ▸ r1.dp e1, hK ▸ r2.dpTop S e2, hs.1, hs.2, b.same S (.bl _)⟩
    · cases e
  · cases e

/-! ### an item -/
def gIx : Op2 := fun x y st => match x, y with
  | .tup ds, .int i => (atI ds i).map fun d => (d, st)
  | .ref r, .int i => (lstOf st r).bind fun ds => (atI ds i).map fun d => (d, st)
  | .str z, .int i => if z.length ≤ sizeLine then (atI z.cps.toList i).map fun c => (.str ⟨#[c]⟩, st) else none
  | _, _ => none
theorem RelL.atI {m : List Addr} {H : Hp} {xs : List V} {ds : List D} {i : Int} {d : D} (h : RelL R m H xs ds) (e : L2.atI ds i = some d) : ∃ v, L2.atI xs i = some v ∧ Rel R m H v d := by
  unfold L2.atI at e ⊢
  rw [← h.length] at e
  cases q : ixN xs.length i with
  | none => rw [q] at e; cases e
  | some j =>
    rw [q] at e
    exact h.get (i := j) e
theorem o_ix (hK : X.K = R.K) : IxR X (rS R gIx) := by
  refine IxR.imp (IxR.or ix_tup (IxR.or ix_list ix_str)) fun v1 v2 H Q h => ?_
  obtain ⟨m, st, d1, d2, d, st', S, r1, r2, e, b⟩ := h
  unfold gIx at e
  split at e
  · rename_i ds i
    cases q : L2.atI ds i with
    | none => rw [q] at e; cases e
    | some z =>
      rw [q] at e
      cases e
      cases r1 with
      | tup ha hs =>
        cases r2
        obtain ⟨v, ev, rv⟩ := hs.atI q
        exact .inl ⟨_, _, _, v, rfl, rfl, hK ▸ ha, ev, b.same S rv⟩
  · rename_i r i
    cases q0 : lstOf st r with
    | none => rw [q0] at e; cases e
    | some ds =>
      rw [q0] at e
      have e : (L2.atI ds i).map (fun d => (d, st)) = some (d, st') := e
      cases q : L2.atI ds i with
      | none => rw [q] at e; cases e
      | some z =>
        rw [q] at e
        cases e
        cases r1 with
        | ref ha =>
          cases r2
          obtain ⟨xs, sq, rl⟩ := lstOf_sq S q0 ha
          obtain ⟨v, ev, rv⟩ := rl.atI q
          exact .inr (.inl ⟨_, _, _, v, rfl, rfl, hK ▸ sq, ev, b.same S rv⟩)
  · rename_i z i
    split at e
    · rename_i hl
      cases q : L2.atI z.cps.toList i with
      | none => rw [q] at e; cases e
      | some c =>
        rw [q] at e
        cases e
        cases r1; cases r2
        exact .inr (.inr ⟨_, _, c, rfl, rfl, hl, q, b.same S (.str _)⟩)
    · cases e
  · cases e
end
end FL
set_option Elab.async false
set_option linter.all false
set_option maxRecDepth 100000
set_option maxHeartbeats 1000000
/-! FL3: built-ins and methods. -/
namespace FL
open PySem PySem.Spec PyProof.Rows L2

/-! ### helpers -/
def intsOf : List D → Option (List Int)
  | [] => some []
  | .int i :: r => (intsOf r).map (i :: ·)
  | _ => none
def blsOf : List D → Option (List Bool)
  | [] => some []
  | .bl i :: r => (blsOf r).map (i :: ·)
  | _ => none
section
variable {R : Rt} {m : List Addr} {H : Hp} {st : Sto}
theorem ints_rel : ∀ {ds : List D} {ns : List Int} {xs : List V}, intsOf ds = some ns → RelL R m H xs ds → xs = ns.map V.int
  | [], _, _, e, r => by cases e; cases r; rfl
  | .int i :: ds, ns, _, e, r => by
    rw [intsOf] at e
    cases q : intsOf ds with
    | none => rw [q] at e; cases e
    | some ms =>
      rw [q] at e
      cases e
      cases r with
      | cons a b =>
        cases a
        rw [ints_rel q b]
        rfl
  | .non :: _, _, _, e, _ => by cases e
  | .bl _ :: _, _, _, e, _ => by cases e
  | .str _ :: _, _, _, e, _ => by cases e
  | .tup _ :: _, _, _, e, _ => by cases e
  | .ref _ :: _, _, _, e, _ => by cases e
theorem bls_rel : ∀ {ds : List D} {ns : List Bool} {xs : List V}, blsOf ds = some ns → RelL R m H xs ds → xs = ns.map V.bl
  | [], _, _, e, r => by cases e; cases r; rfl
  | .bl i :: ds, ns, _, e, r => by
    rw [blsOf] at e
    cases q : blsOf ds with
    | none => rw [q] at e; cases e
    | some ms =>
      rw [q] at e
      cases e
      cases r with
      | cons a b =>
        cases a
        rw [bls_rel q b]
        rfl
  | .non :: _, _, _, e, _ => by cases e
  | .int _ :: _, _, _, e, _ => by cases e
  | .str _ :: _, _, _, e, _ => by cases e
  | .tup _ :: _, _, _, e, _ => by cases e
  | .ref _ :: _, _, _, e, _ => by cases e
theorem intsOf_map (ns : List Int) : intsOf (ns.map D.int) = some ns := by
  induction ns with
  | nil => rfl
  | cons n r ih => rw [List.map_cons, intsOf, ih]; rfl
theorem blsOf_map (ns : List Bool) : blsOf (ns.map D.bl) = some ns := by
  induction ns with
  | nil => rfl
  | cons n r ih => rw [List.map_cons, blsOf, ih]; rfl
end

/-! ### sorting ints -/
def insI (x : Int) : List Int → List Int
  | [] => [x]
  | y :: r => if x ≤ y then x :: y :: r else y :: insI x r
def sortI : List Int → List Int
  | [] => []
  | x :: r => insI x (sortI r)
theorem insI_perm (x : Int) : ∀ l : List Int, (insI x l).Perm (x :: l)
  | [] => .refl _
  | y :: r => by
    unfold insI
    split
    · exact .refl _
    · exact ((insI_perm x r).cons y).trans (.swap x y r)
theorem sortI_perm : ∀ l : List Int, (sortI l).Perm l
  | [] => .refl _
  | x :: r => (insI_perm x (sortI r)).trans ((sortI_perm r).cons x)
theorem insI_sorted (x : Int) : ∀ l : List Int, l.Pairwise (· ≤ ·) → (insI x l).Pairwise (· ≤ ·)
  | [], _ => List.pairwise_singleton _ _
  | y :: r, h => by
    unfold insI
    have h' := List.pairwise_cons.mp h
    split
    · rename_i hxy
      refine List.pairwise_cons.mpr ⟨fun z hz => ?_, h⟩
      rcases List.mem_cons.mp hz with rfl | hz
      · exact hxy
      · exact Int.le_trans hxy (h'.1 z hz)
    · rename_i hxy
      refine List.pairwise_cons.mpr ⟨fun z hz => ?_, insI_sorted x r h'.2⟩
      rcases List.mem_cons.mp ((insI_perm x r).mem_iff.mp hz) with rfl | hz
      · omega
      · exact h'.1 z hz
theorem sortI_sorted : ∀ l : List Int, (sortI l).Pairwise (· ≤ ·)
  | [] => List.Pairwise.nil
  | x :: r => insI_sorted x _ (sortI_sorted r)
theorem sorted_one : ∀ {a b : List Int}, a.Perm b → a.Pairwise (· ≤ ·) → b.Pairwise (· ≤ ·) → a = b
  | [], b, h, _, _ => (List.nil_perm.mp h).symm
  | x :: a, [], h, _, _ => by simpa using h.length_eq
  | x :: a, y :: b, h, ha, hb => by
    have ha' := List.pairwise_cons.mp ha
    have hb' := List.pairwise_cons.mp hb
    have e : x = y := by
      have h1 : x ∈ y :: b := h.mem_iff.mp List.mem_cons_self
      have h2 : y ∈ x :: a := h.mem_iff.mpr List.mem_cons_self
      rcases List.mem_cons.mp h1 with e | h1
      · exact e
      · rcases List.mem_cons.mp h2 with e | h2
        · exact e.symm
        · exact Int.le_antisymm (ha'.1 y h2) (hb'.1 x h1)
    subst e
    rw [sorted_one ((List.perm_cons x).mp h) ha'.2 hb'.2]
theorem sortI_of {a b : List Int} (h : a.Perm b) (s : a.Pairwise (· ≤ ·)) : a = sortI b := sorted_one (h.trans (sortI_perm b).symm) s (sortI_sorted b)
/-- the least -/
def minI : Int → List Int → Int
  | x, [] => x
  | x, y :: r => minI (if y < x then y else x) r
theorem minI_mem : ∀ (x : Int) (l : List Int), minI x l ∈ x :: l
  | x, [] => List.mem_singleton.mpr rfl
  | x, y :: r => by
    unfold minI
    have h := minI_mem (if y < x then y else x) r
    rcases List.mem_cons.mp h with h | h
    · rw [h]
      split
      · exact List.mem_cons_of_mem _ List.mem_cons_self
      · exact List.mem_cons_self
    · exact List.mem_cons_of_mem _ (List.mem_cons_of_mem _ h)
theorem minI_le : ∀ (x : Int) (l : List Int), ∀ y ∈ x :: l, minI x l ≤ y
  | x, [], y, h => by
    rw [List.mem_singleton.mp h]
    exact Int.le_refl _
  | x, z :: r, y, h => by
    unfold minI
    have ih := minI_le (if z < x then z else x) r
    have h0 := ih _ List.mem_cons_self
    rcases List.mem_cons.mp h with rfl | h
    · split at h0 <;> rename_i q <;> (try rw [if_pos q]) <;> (try rw [if_neg q]) <;> omega
    · rcases List.mem_cons.mp h with rfl | h
      · split at h0 <;> rename_i q <;> (try rw [if_pos q]) <;> (try rw [if_neg q]) <;> omega
      · exact ih y (List.mem_cons_of_mem _ h)

/-! ### dicts by ints and texts -/
def D.key : D → Option Key
  | .int i => some (.inl i)
  | .str x => some (.inr x)
  | _ => none
def kD : Key → D
  | .inl i => .int i
  | .inr x => .str x
def dval {κ : Type} [DecidableEq κ] (kvs : List (κ × D)) (k : κ) : Option D := (kvs.find? fun kv => decide (kv.1 = k)).map (·.2)
def dput {κ : Type} [DecidableEq κ] (kvs : List (κ × D)) (k : κ) (v : D) : List (κ × D) :=
  if (kvs.any fun kv => decide (kv.1 = k)) = true then kvs.map (fun kv => if kv.1 = k then (kv.1, v) else kv) else kvs ++ [(k, v)]
section
variable {R : Rt} {m : List Addr} {H : Hp} {st : Sto} {κ : Type} [DecidableEq κ]
theorem Rel.key {v : V} {d : D} {k : Key} (r : Rel R m H v d) (e : d.key = some k) : v = kV k := by
  cases r <;> first | (cases e; rfl) | cases e
theorem RelKV.length {ks : List (κ × V)} {kvs : List (κ × D)} (h : RelKV R m H ks kvs) : ks.length = kvs.length := Paired.length h
theorem RelKV.keys : ∀ {ks : List (κ × V)} {kvs : List (κ × D)}, RelKV R m H ks kvs → ks.map (·.1) = kvs.map (·.1)
  | _, _, .nil => rfl
  | _, _, .cons a b => by
    rw [List.map_cons, List.map_cons, a.1, RelKV.keys b]
theorem RelKV.val (k : κ) : ∀ {ks : List (κ × V)} {kvs : List (κ × D)}, RelKV R m H ks kvs → (dval kvs k = none ∧ valV ks k = none) ∨ ∃ d v, dval kvs k = some d ∧ valV ks k = some v ∧ Rel R m H v d
  | _, _, .nil => .inl ⟨rfl, rfl⟩
  | p :: ps, q :: qs, .cons a b => by
    by_cases h : q.1 = k
    · refine .inr ⟨q.2, p.2, ?_, valV_pos (a.1.trans h), a.2⟩
      simp [dval, List.find?_cons, h]
    · have e : dval (q :: qs) k = dval qs k := by simp [dval, List.find?_cons, h]
      rw [e, valV_neg (fun z => h (a.1 ▸ z))]
      exact RelKV.val k b
theorem RelKV.any (k : κ) : ∀ {ks : List (κ × V)} {kvs : List (κ × D)}, RelKV R m H ks kvs → (ks.any fun kv => decide (kv.1 = k)) = kvs.any fun kv => decide (kv.1 = k)
  | _, _, .nil => rfl
  | p :: ps, q :: qs, .cons a b => by
    rw [List.any_cons, List.any_cons, a.1, RelKV.any k b]
theorem RelKV.repl (k : κ) {v : V} {d : D} (r : Rel R m H v d) : ∀ {ks : List (κ × V)} {kvs : List (κ × D)}, RelKV R m H ks kvs →
    RelKV R m H (ks.map fun kv => if kv.1 = k then (kv.1, v) else kv) (kvs.map fun kv => if kv.1 = k then (kv.1, d) else kv)
  | _, _, .nil => .nil
  | p :: ps, q :: qs, .cons a b => by
    rw [List.map_cons, List.map_cons]
    refine .cons ?_ (RelKV.repl k r b)
    rw [a.1]
    split
    · exact ⟨rfl, r⟩
    · exact a
theorem RelKV.append : ∀ {ks ls : List (κ × V)} {kvs lvs : List (κ × D)}, RelKV R m H ks kvs → RelKV R m H ls lvs → RelKV R m H (ks ++ ls) (kvs ++ lvs)
  | _, _, _, _, .nil, h => h
  | _, _, _, _, .cons a b, h => .cons a (RelKV.append b h)
theorem RelKV.put (k : κ) {v : V} {d : D} (r : Rel R m H v d) {ks : List (κ × V)} {kvs : List (κ × D)} (h : RelKV R m H ks kvs) : RelKV R m H (putK ks k v) (dput kvs k d) := by
  unfold putK dput
  rw [h.any k]
  split
  · exact h.repl k r
  · exact RelKV.append h (.cons ⟨rfl, r⟩ .nil)
theorem RelKV.lists : ∀ {ks : List (Key × V)} {kvs : List (Key × D)}, RelKV R m H ks kvs → RelL R m H (ks.map fun kv => kV kv.1) (kvs.map fun kv => kD kv.1)
  | _, _, .nil => .nil
  | p :: _, q :: _, .cons a b => by
    rw [List.map_cons, List.map_cons, a.1]
    refine .cons ?_ (RelKV.lists b)
    cases q.1 with
    | inl i => exact .int i
    | inr x => exact .str x
end
def keyInts : List (Key × D) → Option (List Int)
  | [] => some []
  | (.inl i, _) :: r => (keyInts r).map (i :: ·)
  | _ => none
theorem keyInts_map : ∀ {kvs : List (Key × D)} {ns : List Int}, keyInts kvs = some ns → kvs.map (·.1) = ns.map Sum.inl
  | [], _, e => by cases e; rfl
  | (.inl i, _) :: r, _, e => by
    rw [keyInts] at e
    cases q : keyInts r with
    | none => rw [q] at e; cases e
    | some ms =>
      rw [q] at e
      cases e
      rw [List.map_cons, keyInts_map q]
      rfl
  | (.inr x, _) :: r, _, e => by cases e

/-! ### built-ins -/
def gLen : OpN := fun ds st => match ds with
  | [.tup xs] => some (.int xs.length, st)
  | [.str z] => if z.length ≤ sizeLine then some (.int z.length, st) else none
  | [.ref r] => match st[r]? with
    | some (.lst xs) => some (.int xs.length, st)
    | some (.scr xs) => some (.int xs.length, st)
    | some (.dic kvs) => some (.int kvs.length, st)
    | _ => none
  | _ => none
def gMin : OpN := fun ds st => match ds with
  | [.ref r] => match (lstOf st r).bind intsOf with
    | some (x :: l) => some (.int (minI x l), st)
    | _ => none
  | _ => none
def gAll : OpN := fun ds st => match ds with
  | [.ref r] => ((lstOf st r).bind blsOf).map fun bs => (.bl (bs.all id), st)
  | _ => none
def gSorted : OpN := fun ds st => match ds with
  | [.ref r] => match st[r]? with
    | some (.lst xs) => (intsOf xs).map fun ns => (.ref st.length, st ++ [.lst ((sortI ns).map .int)])
    | some (.dic kvs) => (keyInts kvs).bind fun ns => if ns.length < 64 then some (.ref st.length, st ++ [.lst ((sortI ns).map .int)]) else none
    | _ => none
  | _ => none
def gTuple : OpN := fun ds st => match ds with
  | [.tup xs] => some (.tup xs, st)
  | [.ref r] => (lstOf st r).map fun xs => (.tup xs, st)
  | _ => none
def gList : OpN := fun ds st => match ds with
  | [.tup xs] => some (.ref st.length, st ++ [.lst xs])
  | [.ref r] => match st[r]? with
    | some (.lst xs) => some (.ref st.length, st ++ [.lst xs])
    | some (.scr xs) => some (.ref st.length, st ++ [.lst xs])
    | some (.dic kvs) => some (.ref st.length, st ++ [.lst (kvs.map fun kv => kD kv.1)])
    | _ => none
  | _ => none
def gAbs : OpN := fun ds st => match ds with
  | [.int i] => some (.int (if i < 0 then -i else i), st)
  | _ => none
def gInt : OpN := fun ds st => match ds with
  | [.int i] => some (.int i, st)
  | [.bl b] => some (.int (if b then 1 else 0), st)
  | _ => none
section
variable {X : Cx} {R : Rt}
theorem c_len (hK : X.K = R.K) : CallR X (.builtin "len") (rN R gLen) := by
  refine CallR.imp (CallR.or call_len call_lenD) fun vs H Q h => ?_
  obtain ⟨m, st, ds, d, st', S, r, e, b⟩ := h
  unfold gLen at e
  split at e
  · cases e
    cases r with
    | cons a r =>
      cases r
      cases a with
      | tup ha hs => exact .inl ⟨_, _, rfl, .inr ⟨_, hK ▸ ha, rfl⟩, by rw [hs.length]; exact b.same S (.int _)⟩
  · split at e
    · rename_i hl
      cases e
      cases r with
      | cons a r =>
        cases r
        cases a
        exact .inl ⟨_, _, rfl, ⟨hl, rfl⟩, b.same S (.int _)⟩
    · cases e
  · cases r with
    | cons a r =>
      cases r
      cases a with
      | ref ha =>
        split at e
        · rename_i h1
          cases e
          obtain ⟨xs, sq, rl⟩ := sqlS (.inl (S.at_ _ _ _ h1 ha))
          exact .inl ⟨_, _, rfl, .inl ⟨_, hK ▸ sq, rfl⟩, by rw [rl.length]; exact b.same S (.int _)⟩
        · rename_i h1
          cases e
          obtain ⟨xs, sq, rl⟩ := sqlS (.inr (S.at_ _ _ _ h1 ha))
          exact .inl ⟨_, _, rfl, .inl ⟨_, hK ▸ sq, rfl⟩, by rw [rl.length]; exact b.same S (.int _)⟩
        · rename_i h1
          cases e
          obtain ⟨ks, hk, rk⟩ := S.at_ _ _ _ h1 ha
          exact .inr ⟨_, _, rfl, hk, by rw [rk.length]; exact b.same S (.int _)⟩
        · cases e
  · cases e
theorem c_min (hK : X.K = R.K) (hc : X.calm = true) : CallR X (.builtin "min") (rN R gMin) := by
  refine CallR.imp (cr_min hc) fun vs H Q h => ?_
  obtain ⟨m, st, ds, d, st', S, r, e, b⟩ := h
  unfold gMin at e
  split at e
  · split at e
    · rename_i x l he
      cases e
      cases r with
      | cons a r =>
        cases r
        cases a with
        | ref ha =>
          rename_i q _ _
          cases q0 : lstOf st q with
          | none => rw [q0] at he; cases he
          | some es =>
            rw [q0] at he
            have he : intsOf es = some (x :: l) := he
            obtain ⟨xs, sq, rl⟩ := lstOf_sq S q0 ha
            rw [ints_rel he rl] at sq
            refine ⟨_, x :: l, rfl, hK ▸ sq, Nat.succ_pos _, fun k hk hle => ?_⟩
            have e1 : k = minI x l := Int.le_antisymm (hle _ (minI_mem x l)) (minI_le x l k hk)
            rw [e1]
            exact b.same S (.int _)
    · cases e
  · cases e
theorem c_all (hK : X.K = R.K) (hc : X.calm = true) : CallR X (.builtin "all") (rN R gAll) := by
  refine CallR.imp (cr_all hc) fun vs H Q h => ?_
  obtain ⟨m, st, ds, d, st', S, r, e, b⟩ := h
  unfold gAll at e
  split at e
  · rename_i q
    cases q0 : lstOf st q with
    | none => rw [q0] at e; cases e
    | some es =>
      cases q1 : blsOf es with
      | none => rw [q0, Option.bind_some, q1] at e; cases e
      | some bs =>
        rw [q0, Option.bind_some, q1] at e
        cases e
        cases r with
        | cons a r =>
          cases r
          cases a with
          | ref ha =>
            obtain ⟨xs, sq, rl⟩ := lstOf_sq S q0 ha
            rw [bls_rel q1 rl] at sq
            exact ⟨_, _, rfl, hK ▸ sq, b.same S (.bl _)⟩
  · cases e
theorem c_sorted (hK : X.K = R.K) (hc : X.calm = true) : CallR X (.builtin "sorted") (rN R gSorted) := by
  refine CallR.imp (CallR.or cr_sortedI (call_sortedDI hc)) fun vs H Q h => ?_
  obtain ⟨m, st, ds, d, st', S, r, e, b⟩ := h
  unfold gSorted at e
  split at e
  · cases r with
    | cons a r =>
      cases r
      cases a with
      | ref ha =>
        split at e
        · rename_i es h1
          cases q1 : intsOf es with
          | none => rw [q1] at e; cases e
          | some ns =>
            rw [q1] at e
            cases e
            obtain ⟨xs, sq, rl⟩ := sqlS (.inl (S.at_ _ _ _ h1 ha))
            rw [ints_rel q1 rl] at sq
            refine .inl ⟨_, _, rfl, hK ▸ sq, fun ns' p hp hs n => ?_⟩
            rw [sortI_of hp hs]
            exact b.newL S n (RelL.ints _)
        · rename_i kvs h1
          cases q1 : keyInts kvs with
          | none => rw [q1] at e; cases e
          | some ns =>
            rw [q1, Option.bind_some] at e
            split at e
            · rename_i hl
              cases e
              obtain ⟨ks, hk, rk⟩ := S.at_ _ _ _ h1 ha
              refine .inr ⟨_, _, _, rfl, .inl hk, (rk.keys).trans (keyInts_map q1), hl, fun ys p hp hs n => ?_⟩
              rw [sortI_of hp hs]
              exact b.newL S n (RelL.ints _)
            · cases e
        · cases e
  · cases e
theorem c_tuple (hK : X.K = R.K) : CallR X (.type "tuple") (rN R gTuple) := by
  refine CallR.imp call_tuple_of fun vs H Q h => ?_
  obtain ⟨m, st, ds, d, st', S, r, e, b⟩ := h
  unfold gTuple at e
  split at e
  · cases e
    cases r with
    | cons a r =>
      cases r
      cases a with
      | tup ha hs => exact ⟨_, _, rfl, .inr ⟨hK ▸ ha, b.same S (.tup ha hs)⟩⟩
  · rename_i q
    cases q0 : lstOf st q with
    | none => rw [q0] at e; cases e
    | some es =>
      rw [q0] at e
      cases e
      cases r with
      | cons a r =>
        cases r
        cases a with
        | ref ha =>
          obtain ⟨xs, sq, rl⟩ := lstOf_sq S q0 ha
          exact ⟨_, _, rfl, .inl ⟨hK ▸ sq, fun l n => b.newT S n rl⟩⟩
  · cases e
theorem c_list (hK : X.K = R.K) (hc : X.calm = true) : CallR X (.type "list") (rN R gList) := by
  refine CallR.imp (CallR.or call_list_of (call_list_dK hc)) fun vs H Q h => ?_
  obtain ⟨m, st, ds, d, st', S, r, e, b⟩ := h
  unfold gList at e
  split at e
  · cases e
    cases r with
    | cons a r =>
      cases r
      cases a with
      | tup ha hs => exact .inl ⟨_, _, rfl, .inr (hK ▸ ha), fun l n => b.newL S n hs⟩
  · cases r with
    | cons a r =>
      cases r
      cases a with
      | ref ha =>
        split at e
        · rename_i h1
          cases e
          obtain ⟨xs, sq, rl⟩ := sqlS (.inl (S.at_ _ _ _ h1 ha))
          exact .inl ⟨_, _, rfl, .inl (hK ▸ sq), fun l n => b.newL S n rl⟩
        · rename_i h1
          cases e
          obtain ⟨xs, sq, rl⟩ := sqlS (.inr (S.at_ _ _ _ h1 ha))
          exact .inl ⟨_, _, rfl, .inl (hK ▸ sq), fun l n => b.newL S n rl⟩
        · rename_i h1
          cases e
          obtain ⟨ks, hk, rk⟩ := S.at_ _ _ _ h1 ha
          exact .inr ⟨_, _, rfl, hk, fun l n => b.newL S n rk.lists⟩
        · cases e
  · cases e
theorem c_abs : CallR X (.builtin "abs") (rN R gAbs) := by
  refine CallR.imp call_abs fun vs H Q h => ?_
  obtain ⟨m, st, ds, d, st', S, r, e, b⟩ := h
  unfold gAbs at e
  split at e
  · cases e
    cases r with
    | cons a r =>
      cases r
      cases a
      exact ⟨_, rfl, b.same S (.int _)⟩
  · cases e
theorem c_int : CallR X (.type "int") (rN R gInt) := by
  refine CallR.imp call_int1 fun vs H Q h => ?_
  obtain ⟨m, st, ds, d, st', S, r, e, b⟩ := h
  unfold gInt at e
  split at e
  · cases e
    cases r with
    | cons a r =>
      cases r
      cases a
      exact .inl ⟨_, rfl, b.same S (.int _)⟩
  · cases e
    cases r with
    | cons a r =>
      cases r
      cases a
      exact .inr ⟨_, rfl, b.same S (.int _)⟩
  · cases e
end

/-! ### isinstance of a built-in type -/
def D.ty (st : Sto) : D → Option String
  | .non => some "NoneType"
  | .bl _ => some "bool"
  | .int _ => some "int"
  | .str _ => some "str"
  | .tup _ => some "tuple"
  | .ref r => match st[r]? with
    | some (.lst _) => some "list"
    | some (.scr _) => some "list"
    | some (.dic _) => some "dict"
    | _ => none
def gIsi (T : String) (x : D) (st : Sto) : Option (D × Sto) := (x.ty st).bind fun t => (kitB t T).map fun b => (.bl b, st)
theorem Rel.tyx {R : Rt} {m : List Addr} {H : Hp} {st : Sto} {v : V} {d : D} {t : String} (S : RelSt R m H st) (r : Rel R m H v d) (e : d.ty st = some t) : TyX R.K H v (.type t) := by
  cases r with
  | non => cases e; exact .base .non
  | bl b => cases e; exact .base (.bl b)
  | int i => cases e; exact .base (.int i)
  | str x => cases e; exact .base (.str x)
  | tup ha hs =>
    cases e
    rcases ha with (ha | ⟨o, ha⟩) | ⟨o, its, n, hk, hc, _⟩
    · exact .base (.tup ha)
    · exact .fTuple ha
    · exact .kTuple hk hc
  | ref ha =>
    dsimp only [D.ty] at e
    split at e
    · rename_i h1
      cases e
      obtain ⟨xs, hx, _⟩ := S.at_ _ _ _ h1 ha
      exact .base (.lst hx)
    · rename_i h1
      cases e
      obtain ⟨xs, hx, _⟩ := S.at_ _ _ _ h1 ha
      rcases hx with ⟨o, hx⟩ | ⟨o, its, n, hk, hc, _⟩
      · exact .base (.frz hx)
      · exact .kList hk hc
    · rename_i h1
      cases e
      obtain ⟨xs, hx, _⟩ := S.at_ _ _ _ h1 ha
      exact .base (.dK hx)
    · cases e
/-- the second argument is the type itself -/
def rIs (R : Rt) (T : String) : List V → Hp → VK → Prop := fun vs H Q => ∃ m st v d0 d st', RelSt R m H st ∧ vs = [v, .ty T] ∧ Rel R m H v d0 ∧ gIsi T d0 st = some (d, st') ∧ Bk R m H st' d Q
theorem c_isi {X : Cx} {R : Rt} (hK : X.K = R.K) (T : String) : CallR X (.builtin "isinstance") (rIs R T) := by
  refine CallR.imp call_isi fun vs H Q h => ?_
  obtain ⟨m, st, v, d0, d, st', S, rfl, r, e, b⟩ := h
  unfold gIsi at e
  cases q : d0.ty st with
  | none => rw [q] at e; cases e
  | some t =>
    rw [q, Option.bind_some] at e
    cases q2 : kitB t T with
    | none => rw [q2] at e; cases e
    | some k =>
      rw [q2] at e
      cases e
      exact ⟨v, .ty T, .type t, .type T, k, rfl, .ty T, hK ▸ r.tyx S q, kit_ty q2, b.same S (.bl _)⟩

/-! ### methods -/
def gAppend : D → OpN := fun x ds st => match x, ds with
  | .ref r, [d] => match st[r]? with
    | some (.lst xs) => if xs.length < sizeLine then some (.non, st.set r (.lst (xs ++ [d]))) else none
    | _ => none
  | _, _ => none
def gReverse : D → OpN := fun x ds st => match x, ds with
  | .ref r, [] => match st[r]? with
    | some (.lst xs) => some (.non, st.set r (.lst xs.reverse))
    | _ => none
  | _, _ => none
def gGet2 : D → OpN := fun x ds st => match x, ds with
  | .ref r, [k, z] => match st[r]?, k.key with
    | some (.dic kvs), some k => some ((dval kvs k).getD z, st)
    | _, _ => none
  | _, _ => none
def gSetd : D → OpN := fun x ds st => match x, ds with
  | .ref r, [k, z] => match st[r]?, k.key with
    | some (.dic kvs), some k => match dval kvs k with
      | some d => if kvs.length < sizeLine then some (d, st) else none
      | none => if kvs.length < sizeLine then some (z, st.set r (.dic (dput kvs k z))) else none
    | _, _ => none
  | _, _ => none
/-- a method's rule: the type is seen when the receiver has come -/
def tyD (T : String) (x : D) (st : Sto) : Bool := match x with
  | .str _ => T == "str"
  | .int _ => T == "int"
  | .ref r => match st[r]? with
    | some (.lst _) => T == "list"
    | some (.scr _) => T == "list"
    | some (.dic _) => T == "dict"
    | _ => false
  | _ => false
theorem Rel.tyV {R : Rt} {m : List Addr} {H : Hp} {st : Sto} {v : V} {d : D} {T : String} (S : RelSt R m H st) (r : Rel R m H v d) (e : tyD T d st = true) : L2.tyV R.K T v H := by
  cases r with
  | non => cases e
  | bl b => cases e
  | tup ha hs => cases e
  | int i => exact beq_iff_eq.mp e
  | str x => exact beq_iff_eq.mp e
  | ref ha =>
    dsimp only [tyD] at e
    split at e
    · rename_i h1
      obtain ⟨xs, sq, _⟩ := sqlS (.inl (S.at_ _ _ _ h1 ha))
      exact .inl ⟨beq_iff_eq.mp e, xs, sq⟩
    · rename_i h1
      obtain ⟨xs, sq, _⟩ := sqlS (.inr (S.at_ _ _ _ h1 ha))
      exact .inl ⟨beq_iff_eq.mp e, xs, sq⟩
    · rename_i h1
      obtain ⟨ks, hk, _⟩ := S.at_ _ _ _ h1 ha
      exact .inr (.inr (.inl ⟨beq_iff_eq.mp e, .inl ⟨ks, hk⟩⟩))
    · cases e
section
variable {X : Cx} {R : Rt}
theorem m_append : MtR X "list.append" (rM R gAppend) := by
  refine MtR.imp (show MtR X "list.append" rAppend from mt_append) fun v vs H Q h => ?_
  obtain ⟨m, st, d0, ds, d, st', S, r0, r, e, b⟩ := h
  unfold gAppend at e
  split at e
  · split at e
    · rename_i h1
      split at e
      · rename_i hl
        cases e
        cases r0 with
        | ref ha =>
          cases r with
          | cons a r =>
            cases r
            obtain ⟨xs, hx, rl⟩ := S.at_ _ _ _ h1 ha
            exact ⟨_, xs, _, rfl, rfl, hx, by rw [rl.length]; exact hl, b.putL S h1 ha (rl.append (.cons a .nil)) .non⟩
      · cases e
    · cases e
  · cases e
theorem m_reverse : MtR X "list.reverse" (rM R gReverse) := by
  refine MtR.imp (show MtR X "list.reverse" rReverse from mt_reverse) fun v vs H Q h => ?_
  obtain ⟨m, st, d0, ds, d, st', S, r0, r, e, b⟩ := h
  unfold gReverse at e
  split at e
  · split at e
    · rename_i h1
      cases e
      cases r0 with
      | ref ha =>
        cases r
        obtain ⟨xs, hx, rl⟩ := S.at_ _ _ _ h1 ha
        exact ⟨_, xs, rfl, rfl, hx, b.putL S h1 ha rl.reverse .non⟩
    · cases e
  · cases e
theorem mt_get2 (hu : X.A.units + 1 < cLine) : MtR X "dict.get" (fun x xs H Q => ∃ a y z o, x = .ref a ∧ xs = [y, z] ∧ DGet H a y o ∧ Q (o.getD z) H) := by
  intro pins s σ H x xs v us Q I rx rxs h
  obtain ⟨a, y, z, o, rfl, rfl, g, q⟩ := h
  obtain ⟨u, w', rfl, r1, r2⟩ := vals2 rxs
  cases rx
  exact d_get2 hu I g r1 r2 fun w2 s' I' rw' => ⟨_, H, I', rw', q⟩
theorem m_get2 (hu : X.A.units + 1 < cLine) : MtR X "dict.get" (rM R gGet2) := by
  refine MtR.imp (mt_get2 hu) fun v vs H Q h => ?_
  obtain ⟨m, st, d0, ds, d, st', S, r0, r, e, b⟩ := h
  unfold gGet2 at e
  split at e
  · split at e
    · rename_i kvs k h1 h2
      cases e
      cases r0 with
      | ref ha =>
        cases r with
        | cons a r =>
          cases r with
          | cons a2 r =>
            cases r
            obtain ⟨ks, hk, rk⟩ := S.at_ _ _ _ h1 ha
            refine ⟨_, _, _, _, rfl, rfl, (a.key h2) ▸ DGet.k hk, ?_⟩
            rcases rk.val k with ⟨e1, e2⟩ | ⟨d1, v1, e1, e2, rv⟩
            · rw [e1] at b
              rw [e2]
              exact b.same S a2
            · rw [e1] at b
              rw [e2]
              exact b.same S rv
    · cases e
  · cases e
theorem mt_setd : MtR X "dict.setdefault" (fun x xs H Q => ∃ a z kvs k, x = .ref a ∧ xs = [kV k, z] ∧ H a = some (.dK kvs) ∧ kvs.length < sizeLine ∧ (∀ v, valV kvs k = some v → Q v H) ∧ (valV kvs k = none → Q z (upd H a (.dK (putK kvs k z))))) := by
  intro pins s σ H x xs v us Q I rx rxs h
  obtain ⟨a, z, kvs, k, rfl, rfl, hk, hl, q1, q2⟩ := h
  obtain ⟨u, w', rfl, r1, r2⟩ := vals2 rxs
  cases rx
  exact d_setd I hk r1 r2 hl (fun v hv w2 s' I' rw' => ⟨_, H, I', rw', q1 v hv⟩) fun hn w2 s' I' rw' => ⟨_, _, I', rw', q2 hn⟩
theorem m_setd : MtR X "dict.setdefault" (rM R gSetd) := by
  refine MtR.imp mt_setd fun v vs H Q h => ?_
  obtain ⟨m, st, d0, ds, d, st', S, r0, r, e, b⟩ := h
  unfold gSetd at e
  split at e
  · split at e
    · rename_i kvs k h1 h2
      cases r0 with
      | ref ha =>
        cases r with
        | cons a r =>
          cases r with
          | cons a2 r =>
            cases r
            obtain ⟨ks, hk, rk⟩ := S.at_ _ _ _ h1 ha
            rw [a.key h2]
            split at e
            · rename_i d1 h3
              split at e
              · rename_i hl
                cases e
                refine ⟨_, _, ks, k, rfl, rfl, hk, by rw [rk.length]; exact hl, fun v hv => ?_, fun hn => ?_⟩
                · rcases rk.val k with ⟨e1, e2⟩ | ⟨d1, v1, e1, e2, rv⟩
                  · rw [h3] at e1; cases e1
                  · rw [h3] at e1; cases e1
                    rw [hv] at e2; cases e2
                    exact b.same S rv
                · rcases rk.val k with ⟨e1, e2⟩ | ⟨d1, v1, e1, e2, rv⟩
                  · rw [h3] at e1; cases e1
                  · rw [hn] at e2; cases e2
              · cases e
            · rename_i h3
              split at e
              · rename_i hl
                cases e
                refine ⟨_, _, ks, k, rfl, rfl, hk, by rw [rk.length]; exact hl, fun v hv => ?_, fun hn => ?_⟩
                · rcases rk.val k with ⟨e1, e2⟩ | ⟨d1, v1, e1, e2, rv⟩
                  · rw [hv] at e2; cases e2
                  · rw [h3] at e1; cases e1
                · have mu := (S.at_ _ _ _ h1 ha).chg rfl
                  exact b.put S h1 ha rfl rfl ⟨_, upd_same, RelKV.put k (a2.mono (Ext.write mu)) (RelKV.mono (Ext.write mu) rk)⟩ a2
              · cases e
    · cases e
  · cases e
end
end FL
set_option Elab.async false
set_option linter.all false
set_option maxRecDepth 100000
set_option maxHeartbeats 1000000
/-! FL4: the intermediate code of expressions, what it gives, how it is held against the text. -/
namespace FL
open PySem PySem.Spec PyProof.Rows L2

/-! ### more operations by values: dicts -/
def gInD : Op2 := fun x y st => match y with
  | .ref r => match st[r]?, x.key with
    | some (.dic kvs), some k => some (.bl (dval kvs k).isSome, st)
    | _, _ => none
  | _ => none
def gNotInD : Op2 := fun x y st => match y with
  | .ref r => match st[r]?, x.key with
    | some (.dic kvs), some k => some (.bl (!(dval kvs k).isSome), st)
    | _, _ => none
  | _ => none
def gIxD : Op2 := fun x y st => match x with
  | .ref r => match st[r]?, y.key with
    | some (.dic kvs), some k => (dval kvs k).map fun d => (d, st)
    | _, _ => none
  | _ => none
def orG (f g : Op2) : Op2 := fun x y st => match f x y st with
  | some r => some r
  | none => g x y st
section
variable {X : Cx} {R : Rt}
theorem rS_or {f g : Op2} {v1 v2 : V} {H : Hp} {Q : VK} (h : rS R (orG f g) v1 v2 H Q) : rS R f v1 v2 H Q ∨ rS R g v1 v2 H Q := by
  obtain ⟨m, st, d1, d2, d, st', S, r1, r2, e, b⟩ := h
  unfold orG at e
  split at e
  · rename_i r q
    exact .inl ⟨m, st, d1, d2, d, st', S, r1, r2, q.trans e, b⟩
  · exact .inr ⟨m, st, d1, d2, d, st', S, r1, r2, e, b⟩
theorem OpR.orG {o : Value → Value → Sem Value} {f g : Op2} (h : OpR X o (rS R f)) (h' : OpR X o (rS R g)) : OpR X o (rS R (FL.orG f g)) := OpR.imp (OpR.or h h') fun _ _ _ _ q => rS_or q
theorem IxR.orG {f g : Op2} (h : IxR X (rS R f)) (h' : IxR X (rS R g)) : IxR X (rS R (FL.orG f g)) := IxR.imp (IxR.or h h') fun _ _ _ _ q => rS_or q
theorem key_get {m : List Addr} {H : Hp} {st : Sto} {r : Nat} {kvs : List (Key × D)} {k : Key} {v y : V} {d : D} (S : RelSt R m H st) (h1 : st[r]? = some (.dic kvs)) (h2 : d.key = some k) (r1 : Rel R m H v (.ref r)) (r2 : Rel R m H y d) :
    ∃ a o, v = .ref a ∧ DGet H a y o ∧ (dval kvs k).isSome = o.isSome ∧ ∀ z, dval kvs k = some z → ∃ w, o = some w ∧ Rel R m H w z := by
  cases r1 with
  | ref ha =>
    obtain ⟨ks, hk, rk⟩ := S.at_ _ _ _ h1 ha
    refine ⟨_, valV ks k, rfl, (r2.key h2) ▸ DGet.k hk, ?_, fun z hz => ?_⟩
    · rcases rk.val k with ⟨e1, e2⟩ | ⟨d1, v1, e1, e2, rv⟩ <;> rw [e1, e2] <;> rfl
    · rcases rk.val k with ⟨e1, e2⟩ | ⟨d1, v1, e1, e2, rv⟩
      · rw [hz] at e1; cases e1
      · rw [hz] at e1; cases e1
        exact ⟨v1, e2, rv⟩
theorem o_inD (hu : X.A.units + 1 < cLine) : OpR X (compareOp .In) (rS R gInD) := by
  intro pins s σ H x y v u Q I rx ry h
  obtain ⟨m, st, d1, d2, d, st', S, r1, r2, e, b⟩ := h
  unfold gInD at e
  split at e
  · split at e
    · rename_i kvs k h1 h2
      cases e
      obtain ⟨a, o, rfl, g, e1, e2⟩ := key_get S h1 h2 r2 r1
      cases ry
      refine d_in hu I g rx fun s' I' => ⟨.bl o.isSome, H, I', rfl, ?_⟩
      rw [e1] at b
      exact b.same S (.bl _)
    · cases e
  · cases e
theorem o_notInD (hu : X.A.units + 1 < cLine) : OpR X (compareOp .NotIn) (rS R gNotInD) := by
  intro pins s σ H x y v u Q I rx ry h
  obtain ⟨m, st, d1, d2, d, st', S, r1, r2, e, b⟩ := h
  unfold gNotInD at e
  split at e
  · split at e
    · rename_i kvs k h1 h2
      cases e
      obtain ⟨a, o, rfl, g, e1, e2⟩ := key_get S h1 h2 r2 r1
      cases ry
      refine d_notIn hu I g rx fun s' I' => ⟨.bl (!o.isSome), H, I', rfl, ?_⟩
      rw [e1] at b
      exact b.same S (.bl _)
    · cases e
  · cases e
theorem o_ixD (hu : X.A.units + 1 < cLine) : IxR X (rS R gIxD) := by
  intro value slice pins s σ H x y v u Q I rx ry h hs
  obtain ⟨m, st, d1, d2, d, st', S, r1, r2, e, b⟩ := h
  unfold gIxD at e
  split at e
  · split at e
    · rename_i kvs k h1 h2
      cases q : dval kvs k with
      | none => rw [q] at e; cases e
      | some z =>
        rw [q] at e
        cases e
        obtain ⟨a, o, rfl, g, e1, e2⟩ := key_get S h1 h2 r1 r2
        obtain ⟨w, rfl, rw_⟩ := e2 _ q
        cases rx
        exact tail_any (dict_typeIs I g) PySem.F.slot_dict_getitem.lookup (d_getItem hu I g ry fun w' s' I' rw' => ⟨w, H, I', rw', b.same S rw_⟩) hs
    · cases e
  · cases e
end
/-! slices -/
abbrev OpS := D → Option Int → Option Int → Sto → Option (D × Sto)
def cutD (xs : List D) (lo hi : Option Int) : List D := (xs.drop (HT.sIx xs.length 0 lo)).take (HT.sIx xs.length xs.length hi - HT.sIx xs.length 0 lo)
def gSl : OpS := fun x lo hi st => match x with
  | .ref r => (lstOf st r).map fun ds => (.ref st.length, st ++ [.lst (cutD ds lo hi)])
  | _ => none
def rSl (R : Rt) (g : OpS) : V → Option Int → Option Int → Hp → VK → Prop := fun v lo hi H Q => ∃ m st d0 d st', RelSt R m H st ∧ Rel R m H v d0 ∧ g d0 lo hi st = some (d, st') ∧ Bk R m H st' d Q
theorem SlR.imp {X : Cx} {r r' : V → Option Int → Option Int → Hp → VK → Prop} (h : L2.SlR X r) (k : ∀ v lo hi H Q, r' v lo hi H Q → r v lo hi H Q) : L2.SlR X r' :=
  fun pins s σ H x v vl vu lo hi sl Q I rx hs pl pu q => h pins s σ H x v vl vu lo hi sl Q I rx hs pl pu (k _ _ _ _ _ q)
theorem o_sl {X : Cx} {R : Rt} (hK : X.K = R.K) : L2.SlR X (rSl R gSl) := by
  refine SlR.imp sl_list fun v lo hi H Q h => ?_
  obtain ⟨m, st, d0, d, st', S, r, e, b⟩ := h
  unfold gSl at e
  split at e
  · rename_i q
    cases q0 : lstOf st q with
    | none => rw [q0] at e; cases e
    | some ds =>
      rw [q0] at e
      cases e
      cases r with
      | ref ha =>
        obtain ⟨xs, sq, rl⟩ := lstOf_sq S q0 ha
        refine ⟨_, xs, rfl, hK ▸ sq, fun p n => b.newL S n ?_⟩
        unfold cutV cutD
        rw [rl.length]
        exact (rl.drop _).take _
  · cases e

/-! ### the code -/
inductive Bop where
  | add | sub | mul | mod | div | pow
inductive Cop where
  | eq | ne | lt | le | gt | ge | isN | notN | inn | nin
inductive Blt where
  | len | min1 | all | sorted | tuple | list | abs | int
inductive Bm where
  | append | reverse | get2 | setd
mutual
inductive E where
  | var (i : Nat)
  | int (i : Int)
  | bl (b : Bool)
  | non
  | str (x : Str)
  | bin (o : Bop) (a b : E)
  | neg (a : E)
  | cmp (o : Cop) (a b : E)
  | and2 (a b : E)
  | or2 (a b : E)
  | one (a : E)
  | notv (a : E)
  | ite (c : T) (a b : E)
  | call (k : Nat) (as : Es)
  | blt (b : Blt) (as : Es)
  | isi (a : E) (ty : Str)
  | meth (m : Bm) (o : E) (as : Es)
  | tup (es : Es)
  | lst (es : Es)
  | dnew
  | dic1 (k v : E)
  | ix (a i : E)
  | sl (a : E) (lo hi : Eo)
  | lc (elt : E) (tg : Tg) (src : It) (co : Co) (own : List (Str × Nat))
inductive Es where
  | nil
  | cons (e : E) (es : Es)
inductive Eo where
  | no
  | yes (e : E)
inductive T where
  | val (e : E)
  | cmp (o : Cop) (a b : E)
  | not (a : T)
  | and (c : Ch)
  | or (c : Ch)
inductive Ch where
  | one (a : T)
  | cons (a : T) (r : Ch)
inductive It where
  | seq (e : E)
  | rng1 (a : E)
  | rng2 (a b : E)
inductive Tg where
  | name (i : Nat)
  | tup (ts : Tgs)
  | sub (o i : E)
inductive Tgs where
  | nil
  | cons (t : Tg) (ts : Tgs)
inductive Co where
  | no
  | yes (t : T)
end

/-! ### what the parts of the code are -/
def Bop.g : Bop → Op2
  | .add => gAdd | .sub => gSub | .mul => gMul | .mod => gMod | .div => gDiv | .pow => gPow
def Bop.is (b : Bop) (o : Operator) : Bool := match b, o with
  | .add, .Add => true | .sub, .Sub => true | .mul, .Mult => true | .mod, .Mod => true | .div, .FloorDiv => true | .pow, .Pow => true
  | _, _ => false
def Cop.g : Cop → Op2
  | .eq => gEq | .ne => gNe | .lt => gLt | .le => gLe | .gt => gGt | .ge => gGe | .isN => gIsN | .notN => gNotN | .inn => orG gInD gIn | .nin => orG gNotInD gNotIn
def Cop.is (b : Cop) (o : CmpOp) : Bool := match b, o with
  | .eq, .Eq => true | .ne, .NotEq => true | .lt, .Lt => true | .le, .LtE => true | .gt, .Gt => true | .ge, .GtE => true
  | .isN, .Is => true | .notN, .IsNot => true | .inn, .In => true | .nin, .NotIn => true
  | _, _ => false
def Blt.g : Blt → OpN
  | .len => gLen | .min1 => gMin | .all => gAll | .sorted => gSorted | .tuple => gTuple | .list => gList | .abs => gAbs | .int => gInt
def Blt.name : Blt → Str
  | .len => "len" | .min1 => "min" | .all => "all" | .sorted => "sorted" | .tuple => "tuple" | .list => "list" | .abs => "abs" | .int => "int"
/-- the built-in's own name -/
def Blt.id : Blt → String
  | .len => "len" | .min1 => "min" | .all => "all" | .sorted => "sorted" | .tuple => "tuple" | .list => "list" | .abs => "abs" | .int => "int"
def Blt.ty : Blt → Bool
  | .tuple => true | .list => true | .int => true
  | _ => false
def Bm.g : Bm → D → OpN
  | .append => gAppend | .reverse => gReverse | .get2 => gGet2 | .setd => gSetd
def Bm.name : Bm → Str
  | .append => "append" | .reverse => "reverse" | .get2 => "get" | .setd => "setdefault"
def Bm.ty : Bm → String
  | .append => "list" | .reverse => "list" | .get2 => "dict" | .setd => "dict"
def tyName (x : Str) : Option String :=
  if x = "int" then some "int" else if x = "bool" then some "bool" else if x = "str" then some "str" else if x = "tuple" then some "tuple" else if x = "list" then some "list" else if x = "dict" then some "dict" else none

/-! ### running -/
structure Rn where
  call : Nat → List D → Sto → Res D
  W : Nat
/-- what a loop walks: the i-th thing, or the end -/
structure Src where
  get : Nat → Sto → Option (Option D)
  n : Nat
def Src.items (ds : List D) : Src := ⟨fun i _ => some ds[i]?, ds.length⟩
def Src.live (W r : Nat) : Src := ⟨fun i st => (lstOf st r).map fun ds => ds[i]?, W⟩
def rngD (lo : Int) (n : Nat) : List D := (List.range n).map fun (i : Nat) => D.int (lo + (i : Int))
def D.truth (st : Sto) : D → Option Bool
  | .non => some false
  | .bl b => some b
  | .int i => some (i != 0)
  | .str y => if y.length ≤ sizeLine then some ((y.length : Int) != 0) else none
  | .tup ds => some (!ds.isEmpty)
  | .ref r => match st[r]? with
    | some (.lst ds) => some (!ds.isEmpty)
    | some (.scr ds) => some (!ds.isEmpty)
    | some (.dic kvs) => some (!kvs.isEmpty)
    | _ => none
/-- what may not raise -/
def Res.noX {α : Type} : Res α → Res α
  | .exc _ _ _ => .bad
  | r => r
/-- the turns of a list comprehension; body: none where the test says no -/
def lcGo (src : Src) (body : D → Sto → Res (Option D)) (r : Nat) : Nat → Nat → Sto → Res D
  | 0, i, st => match src.get i st with
    | some none => .ok (.ref r) st
    | _ => .bad
  | n + 1, i, st => match src.get i st with
    | some none => .ok (.ref r) st
    | some (some x) => (body x st).noX.bind fun y st1 => match y with
      | none => lcGo src body r n (i + 1) st1
      | some d => match st1[r]? with
        | some (.lst acc) => if acc.length < sizeLine then lcGo src body r n (i + 1) (st1.set r (.lst (acc ++ [d]))) else .bad
        | _ => .bad
    | none => .bad
def wipeE (env : En) : List Nat → En
  | [] => env
  | v :: vs => (wipeE env vs).set v none
def setSub (o i d : D) (st : Sto) : Option Sto := match o with
  | .ref r => match st[r]? with
    | some (.lst xs) => match i with
      | .int k => (ixN xs.length k).map fun j => st.set r (.lst (xs.set j d))
      | _ => none
    | some (.dic kvs) => match i.key with
      | some k => if kvs.length < sizeLine then some (st.set r (.dic (dput kvs k d))) else none
      | none => none
    | _ => none
  | _ => none
/-- one of two ways -/
def br {α : Type} (f g : Sto → α) (b : Bool) (st : Sto) : α := match b with
  | true => f st
  | false => g st
mutual
def evE (N : Rn) : E → En → Sto → Res D
  | .var i, env, st => match env[i]? with
    | some (some d) => .ok d st
    | _ => .bad
  | .int i, _, st => .ok (.int i) st
  | .bl b, _, st => .ok (.bl b) st
  | .non, _, st => .ok .non st
  | .str x, _, st => .ok (.str x) st
  | .bin o a b, env, st => (evE N a env st).bind fun x st => (evE N b env st).bind fun y st => .ofO (o.g x y st)
  | .neg a, env, st => (evE N a env st).bind fun x st => match x with
    | .int i => .ok (.int (-i)) st
    | _ => .bad
  | .cmp o a b, env, st => (evE N a env st).bind fun x st => (evE N b env st).bind fun y st => .ofO (o.g x y st)
  | .and2 a b, env, st => (evE N a env st).bind fun x st => match x with
    | .bl true => evE N b env st
    | .bl false => .ok (.bl false) st
    | _ => .bad
  | .or2 a b, env, st => (evE N a env st).bind fun x st => match x with
    | .bl true => .ok (.bl true) st
    | .bl false => evE N b env st
    | _ => .bad
  | .one a, env, st => evE N a env st
  | .notv a, env, st => (evE N a env st).bind fun x st => match x with
    | .bl c => .ok (.bl (!c)) st
    | _ => .bad
  | .ite c a b, env, st => (evT N c env st).bind (br (evE N a env) (evE N b env))
  | .call k as, env, st => (evEs N as env st).bind fun ds st => N.call k ds st
  | .blt b as, env, st => (evEs N as env st).bind fun ds st => .ofO (b.g ds st)
  | .isi a ty, env, st => (evE N a env st).bind fun x st => match tyName ty with
    | some t => .ofO (gIsi t x st)
    | none => .bad
  | .meth m o as, env, st => (evE N o env st).bind fun x st => if tyD m.ty x st then (evEs N as env st).bind fun ds st => .ofO (m.g x ds st) else .bad
  | .tup es, env, st => (evEs N es env st).bind fun ds st => if ds.length ≤ sizeLine then .ok (.tup ds) st else .bad
  | .lst es, env, st => (evEs N es env st).bind fun ds st => if ds.length ≤ sizeLine then .ok (.ref st.length) (st ++ [.lst ds]) else .bad
  | .dnew, _, st => .ok (.ref st.length) (st ++ [.dic []])
  | .dic1 k v, env, st => (evE N k env (st ++ [.dic []])).bind fun x st1 => (evE N v env st1).bind fun y st2 => match st2[st.length]?, x.key with
    | some (.dic []), some k => .ok (.ref st.length) (st2.set st.length (.dic [(k, y)]))
    | _, _ => .bad
  | .ix a i, env, st => (evE N a env st).bind fun x st => (evE N i env st).bind fun y st => .ofO (orG gIx gIxD x y st)
  | .sl a lo hi, env, st => (evE N a env st).bind fun x st => (evEo N lo env st).bind fun l st => (evEo N hi env st).bind fun h st => .ofO (gSl x l h st)
  | .lc elt tg src co own, env, st => (evIt N src env st).bind fun s st => lcGo s (fun x st => (evTg N tg x (wipeE env (own.map (·.2))) st).bind fun env1 st =>
      (evCo N co env1 st).bind fun b st => match b with
        | true => (evE N elt env1 st).bind fun d st => .ok (some d) st
        | false => .ok none st) st.length s.n 0 (st ++ [.lst []])
def evEs (N : Rn) : Es → En → Sto → Res (List D)
  | .nil, _, st => .ok [] st
  | .cons e es, env, st => (evE N e env st).bind fun d st => (evEs N es env st).bind fun ds st => .ok (d :: ds) st
def evEo (N : Rn) : Eo → En → Sto → Res (Option Int)
  | .no, _, st => .ok none st
  | .yes e, env, st => (evE N e env st).bind fun d st => match d with
    | .int i => .ok (some i) st
    | _ => .bad
def evT (N : Rn) : T → En → Sto → Res Bool
  | .val e, env, st => (evE N e env st).bind fun x st => match x.truth st with
    | some b => .ok b st
    | none => .bad
  | .cmp o a b, env, st => (evE N a env st).bind fun x st => (evE N b env st).bind fun y st => (Res.ofO (o.g x y st)).bind fun z st => match z with
    | .bl b => .ok b st
    | _ => .bad
  | .not a, env, st => (evT N a env st).bind fun b st => .ok (!b) st
  | .and c, env, st => evAnd N c env st
  | .or c, env, st => evOr N c env st
def evAnd (N : Rn) : Ch → En → Sto → Res Bool
  | .one a, env, st => evT N a env st
  | .cons a r, env, st => (evT N a env st).bind (br (evAnd N r env) (.ok false))
def evOr (N : Rn) : Ch → En → Sto → Res Bool
  | .one a, env, st => evT N a env st
  | .cons a r, env, st => (evT N a env st).bind (br (.ok true) (evOr N r env))
def evIt (N : Rn) : It → En → Sto → Res Src
  | .seq e, env, st => (evE N e env st).bind fun x st => match x with
    | .tup ds => .ok (.items ds) st
    | .ref r => match lstOf st r with
      | some _ => .ok (.live N.W r) st
      | none => .bad
    | _ => .bad
  | .rng1 a, env, st => (evE N a env st).bind fun x st => match x with
    | .int j => if -(2 ^ 62) ≤ j ∧ j < 2 ^ 62 then .ok (.items (rngD 0 j.toNat)) st else .bad
    | _ => .bad
  | .rng2 a b, env, st => (evE N a env st).bind fun x st => (evE N b env st).bind fun y st => match x, y with
    | .int i, .int j => if -(2 ^ 62) ≤ i ∧ i < 2 ^ 62 ∧ -(2 ^ 62) ≤ j ∧ j < 2 ^ 62 then .ok (.items (rngD i (j - i).toNat)) st else .bad
    | _, _ => .bad
def evTg (N : Rn) : Tg → D → En → Sto → Res En
  | .name i, d, env, st => .ok (env.set i (some d)) st
  | .tup ts, d, env, st => match d with
    | .tup ds => if ds.length = ts.len then evTgs N ts ds env st else .bad
    | _ => .bad
  | .sub o i, d, env, st => (evE N o env st).bind fun x st => (evE N i env st).bind fun y st => match setSub x y d st with
    | some st => .ok env st
    | none => .bad
def evTgs (N : Rn) : Tgs → List D → En → Sto → Res En
  | .nil, [], env, st => .ok env st
  | .cons t ts, d :: ds, env, st => (evTg N t d env st).bind fun env st => evTgs N ts ds env st
  | _, _, _, _ => .bad
def evCo (N : Rn) : Co → En → Sto → Res Bool
  | .no, _, st => .ok true st
  | .yes t, env, st => evT N t env st
def Tgs.len : Tgs → Nat
  | .nil => 0
  | .cons _ ts => ts.len + 1
end
end FL
set_option Elab.async false
set_option linter.all false
set_option maxRecDepth 100000
set_option maxHeartbeats 1000000
/-! FL5: each construct of the code, shown over the layer's rules. -/
namespace FL
open PySem PySem.Spec PyProof.Rows L2

/-- where code stands: its scope, the names by slot, which names' cells are the block's own -/
structure Ctx where
  sc : Scope
  N : List Str
  fn : Str → Bool
/-- the names of the module that are used: the defs (name, number of parameters), the built-ins' names -/
structure Nms where
  fns : List (Str × Nat)
  free : List Str

/-- what a def promises: it gives what its code gives -/
def spF (R : Rt) (call : Nat → List D → Sto → Res D) (k : Nat) : Sp := fun vs H Q E => ∃ m ds st, RelL R m H vs ds ∧ RelSt R m H st ∧ Fin R (fun cls dx _ H' => E cls dx H') (Rel R) m H [] Q (call k ds st)
structure Facts (U : Nms) (R : Rt) (N : Rn) (lv : Nat) (P : Program) (w : World) (K : PySem.W.Frag) (mg : Str → Option Value) (base : Heap) : Prop where
  free : ∀ x ∈ U.free, mg x = none
  fns : ∀ k x np, U.fns[k]? = some (x, np) → ∃ f fd ps, mg x = some (.ref f) ∧ PySem.W.keepIn K (.ref f) = true ∧ Binds K fd ps [] ∧ FnOk P w K mg base (L2.CX P w) lv f fd ps (spF R N.call k)
structure Good (U : Nms) (R : Rt) (N : Rn) (lv : Nat) (c : Ctx) (X : Cx) : Prop where
  sc : X.env.scope = c.sc
  nm : X.N = c.N
  nd : c.N.Nodup
  fn : X.fn = c.fn
  calm : X.calm = true
  room : Room lv X.A
  K : X.K = R.K
  facts : Facts U R N lv X.prog X.w X.K X.mg X.base

section
variable (U : Nms) (R : Rt) (N : Rn) (lv : Nat) (c : Ctx)
def SE (f : En → Sto → Res D) (e : Expr) : Prop := ∀ X W, Good U R N lv c X → Takes X W → PE X e (tE R W f)
def SA (f : En → Sto → Res (List D)) (es : List Expr) : Prop := ∀ X W, Good U R N lv c X → Takes X W → PA X es (tA R W f)
def ST (f : En → Sto → Res Bool) (e : Expr) : Prop := ∀ X W, Good U R N lv c X → Takes X W → PT X e (tT R W f)
def SW (f : En → Sto → Res Bool) (e : Expr) : Prop := ∀ X W, Good U R N lv c X → Takes X W → PW X e (tT R W f)
end
/-- the slots but these stand -/
def Keeps (sl : List Nat) (σ σ' : L2.St) : Prop := σ'.length = σ.length ∧ ∀ i, i ∉ sl → σ'[i]? = σ[i]?
theorem Keeps.refl {sl : List Nat} {σ : L2.St} : Keeps sl σ σ := ⟨rfl, fun _ _ => rfl⟩
theorem Keeps.trans {sl : List Nat} {a b d : L2.St} (h : Keeps sl a b) (h' : Keeps sl b d) : Keeps sl a d := ⟨h'.1.trans h.1, fun i q => (h'.2 i q).trans (h.2 i q)⟩
theorem Keeps.mono {sl sl' : List Nat} {a b : L2.St} (h : Keeps sl a b) (k : ∀ i ∈ sl, i ∈ sl') : Keeps sl' a b := ⟨h.1, fun i q => h.2 i fun z => q (k i z)⟩
theorem Keeps.set {sl : List Nat} {σ : L2.St} {i : Nat} {x : Option V} (h : i ∈ sl) : Keeps sl σ (σ.set i x) := ⟨List.length_set, fun j q => List.getElem?_set_ne fun (e : i = j) => q (e ▸ h)⟩
/-- what is wanted behind a target's store -/
def FinG (R : Rt) (W : WX) (sl : List Nat) (m : List Addr) (H : Hp) (σ : L2.St) (Q : L2.St → Hp → Prop) : Res En → Prop
  | .ok env st => ∀ m' H' σ', Ext R m H m' H' → RelSt R m' H' st → RelE R m' H' σ' env → Keeps sl σ σ' → Q σ' H'
  | .exc c fs st => ∀ m' H' σ' cls dx, Ext R m H m' H' → RelSt R m' H' st → Keeps sl σ σ' → RelX R m' H' cls dx c fs → W cls dx σ' H'
  | .bad => False
def tG (R : Rt) (W : WX) (sl : List Nat) (f : D → En → Sto → Res En) : TG := fun v σ H Q => ∃ m env st d, RelE R m H σ env ∧ RelSt R m H st ∧ Rel R m H v d ∧ FinG R W sl m H σ Q (f d env st)
def tGs (R : Rt) (W : WX) (sl : List Nat) (f : List D → En → Sto → Res En) : TGs := fun vs σ H Q => ∃ m env st ds, RelE R m H σ env ∧ RelSt R m H st ∧ RelL R m H vs ds ∧ FinG R W sl m H σ Q (f ds env st)
/-- an iterator walks what is told -/
def RelJ (R : Rt) (m : List Addr) (H : Hp) (J : L2.It) (s : Src) : Prop := ∀ m' H' st' i, Ext R m H m' H' → RelSt R m' H' st' → match s.get i st' with
  | none => True
  | some none => J.stop i H'
  | some (some d) => J.go i H' ∧ ∀ x H2, J.yld i H' x H2 → ∃ m2, Ext R m' H' m2 H2 ∧ RelSt R m2 H2 st' ∧ Rel R m2 H2 x d
def tI (R : Rt) (W : WX) (f : En → Sto → Res Src) : TI := fun σ H Q => ∃ m env st, RelE R m H σ env ∧ RelSt R m H st ∧ Fin R W (RelJ R) m H σ Q (f env st)
section
variable (U : Nms) (R : Rt) (N : Rn) (lv : Nat) (c : Ctx)
def SG (sl : List Nat) (f : D → En → Sto → Res En) (e : Expr) : Prop := ∀ X W, Good U R N lv c X → Takes X W → PG X e (tG R W sl f)
def SGs (sl : List Nat) (f : List D → En → Sto → Res En) (es : List Expr) : Prop := ∀ X W, Good U R N lv c X → Takes X W → PGs X es (tGs R W sl f)
def SI (f : En → Sto → Res Src) (e : Expr) : Prop := ∀ X W tg, Good U R N lv c X → Takes X W → PI X tg e (tI R W f)
end

/-! ### text facts -/
def plainIx : Expr → Bool
  | .Slice .. => false
  | _ => true
theorem plainIx_ok {b : Expr} (h : plainIx b = true) : PlainIx b := by
  intro o i
  cases b <;> first | rfl | cases h
def noSuper : Expr → Bool
  | .Call (.Name _ _) [] [] _ => false
  | _ => true
theorem noSuper_ok {o : Expr} {name : Str} {env : Env} (h : noSuper o = true) : attributeBase o name env (eval o env) = eval o env := by
  unfold attributeBase
  split
  · cases h
  · rfl
def noStar : Expr → Bool
  | .Starred .. => false
  | _ => true
theorem starEach_ok {env : Env} : ∀ {es : List Expr}, es.all noStar = true → starEach es env = es.map fun e => (false, eval e env)
  | [], _ => by rw [starEach.eq_def]; rfl
  | e :: es, h => by
    rw [List.all_cons, Bool.and_eq_true] at h
    have ih := starEach_ok (env := env) h.2
    rw [List.map_cons, ← ih]
    cases e <;> first | rfl | cases h.1
theorem backTo_any {env : Env} {pos : Pos} {es : List Expr} (h : es.all noStar = true) : (backTo pos (starEach es env)).any (·.1) = false := by
  rw [starEach_ok h]
  unfold backTo
  rw [List.map_map, List.any_map]
  induction es with
  | nil => rfl
  | cons e es ih =>
    rw [List.all_cons, Bool.and_eq_true] at h
    rw [List.any_cons, ih h.2]
    rfl
theorem backTo_all {env : Env} {pos : Pos} {es : List Expr} (h : es.all noStar = true) : (backTo pos (starEach es env)).all (fun x => !x.1) = true := by
  rw [starEach_ok h]
  unfold backTo
  rw [List.map_map, List.all_map]
  induction es with
  | nil => rfl
  | cons e es ih =>
    rw [List.all_cons, Bool.and_eq_true] at h
    rw [List.all_cons, ih h.2]
    rfl
theorem assignEach_ok {env : Env} : ∀ {es : List Expr}, es.all noStar = true → assignEach es env = es.map fun e => (false, assign e env)
  | [], _ => by rw [assignEach.eq_def]; rfl
  | e :: es, h => by
    rw [List.all_cons, Bool.and_eq_true] at h
    have ih := assignEach_ok (env := env) h.2
    rw [List.map_cons, ← ih]
    cases e <;> first | rfl | cases h.1
theorem assignEach_len {env : Env} {es : List Expr} (h : es.all noStar = true) : (assignEach es env).length = es.length := by rw [assignEach_ok h, List.length_map]
theorem assignEach_find {env : Env} {es : List Expr} (h : es.all noStar = true) : (assignEach es env).findIdx? (·.1) = none := by
  rw [assignEach_ok h, List.findIdx?_eq_none_iff]
  intro x hx
  obtain ⟨e, _, rfl⟩ := List.mem_map.mp hx
  rfl
def noSet : Expr → Bool
  | .Set .. => false
  | _ => true
theorem noSet_marks {b : Expr} {op : CmpOp} (h : noSet b = true) : behindInMarks op b = false := by
  cases b <;> first | rfl | cases h
theorem noSet_fold {b : Expr} {env : Env} (h : noSet b = true) (x : Value) : foldedSetIterable b env x = pure x := by
  cases b <;> first | rfl | cases h
def plainT : Expr → Bool
  | .UnaryOp .. => false
  | .BoolOp .. => false
  | .IfExp .. => false
  | .Compare .. => false
  | _ => true
theorem plainT_ok {e : Expr} {env : Env} (h : plainT e = true) (whole : Sem Value) : isTrue e env whole = (do let v ← whole; standAt e.pos; holding [v] (truthy v)) := by
  cases e <;> first | rfl | cases h

/-! ### expressions -/
section
variable {U : Nms} {R : Rt} {N : Rn} {lv : Nat} {c : Ctx}
theorem PE.or {X : Cx} {e : Expr} {t t' : TE} (h : PE X e t) (h' : PE X e t') : PE X e (fun σ H Q => t σ H Q ∨ t' σ H Q) := ⟨fun pins s σ H Q I q => q.elim (h.run pins s σ H Q I) (h'.run pins s σ H Q I)⟩
theorem PI.or {X : Cx} {tg e : Expr} {t t' : TI} (h : PI X tg e t) (h' : PI X tg e t') : PI X tg e (fun σ H Q => t σ H Q ∨ t' σ H Q) := ⟨fun pins s σ H Q I q => q.elim (h.run pins s σ H Q I) (h'.run pins s σ H Q I)⟩
theorem PI.imp {X : Cx} {tg e : Expr} {t t' : TI} (h : PI X tg e t) (k : ∀ σ H Q, t' σ H Q → t σ H Q) : PI X tg e t' := ⟨fun pins s σ H Q I q => h.run pins s σ H Q I (k σ H Q q)⟩
theorem Fin.ofO {R : Rt} {W : WX} {m : List Addr} {H : Hp} {σ : L2.St} {Q : VK} {o : Option (D × Sto)} (h : Fin R W (Rel R) m H σ Q (.ofO o)) : ∃ d st', o = some (d, st') ∧ Bk R m H st' d Q := by
  cases o with
  | none => exact h.elim
  | some p => exact ⟨p.1, p.2, rfl, h⟩

theorem s_var {i : Nat} {x : Str} {pos : Pos} (hN : c.N[i]? = some x) (hv : Vis c.sc x) (hd : (x == ("__debug__" : Str)) = false) (hcd : (x == ("__classdict__" : Str)) = false) :
    SE U R N lv c (evE N (.var i)) (.Name x pos) := by
  intro X W G tk
  refine PE.imp (pe_var (i := i) (by rw [G.nm]; exact hN) (by rw [G.sc]; exact hv) hd hcd) fun σ H Q h => ?_
  obtain ⟨m, env, st, hE, S, h⟩ := h
  rw [evE] at h
  split at h
  · rename_i d e
    obtain ⟨v, ev, rv⟩ := hE.2 i d e
    exact ⟨v, ev, h.ok S rv⟩
  · exact h.elim
theorem s_int {i : Int} {j pos} : SE U R N lv c (evE N (.int i)) (.Constant (.int i) j pos) := fun X W G tk => PE.imp pe_int fun σ H Q ⟨m, env, st, hE, S, h⟩ => Fin.ok (d := D.int i) (rel := Rel R) (by rw [evE] at h; exact h) S (Rel.int i)
theorem s_bl {i : Bool} {j pos} : SE U R N lv c (evE N (.bl i)) (.Constant (.bool i) j pos) := fun X W G tk => PE.imp pe_bl fun σ H Q ⟨m, env, st, hE, S, h⟩ => Fin.ok (d := D.bl i) (rel := Rel R) (by rw [evE] at h; exact h) S (Rel.bl i)
theorem s_non {j pos} : SE U R N lv c (evE N .non) (.Constant .none j pos) := fun X W G tk => PE.imp pe_non fun σ H Q ⟨m, env, st, hE, S, h⟩ => Fin.ok (d := D.non) (rel := Rel R) (by rw [evE] at h; exact h) S Rel.non
theorem s_str {x : Str} {j pos} : SE U R N lv c (evE N (.str x)) (.Constant (.str x) j pos) := fun X W G tk => PE.imp pe_str fun σ H Q ⟨m, env, st, hE, S, h⟩ => Fin.ok (d := D.str x) (rel := Rel R) (by rw [evE] at h; exact h) S (Rel.str x)

/-- two operands, then an operation on values -/
theorem two_rd {fa fb : En → Sto → Res D} {g : Op2} {W : WX} {σ : L2.St} {H : Hp} {Q : VK}
    (h : tE R W (fun env st => (fa env st).bind fun x st => (fb env st).bind fun y st => .ofO (g x y st)) σ H Q) : tOp (rS R g) (tE R W fa) (tE R W fb) σ H Q := by
  obtain ⟨m, env, st, hE, S, h⟩ := h
  refine ⟨m, env, st, hE, S, Fin.bind h fun d1 st1 m1 H1 v1 e1 S1 r1 h => ⟨m1, env, st1, hE.mono e1, S1, Fin.bind h fun d2 st2 m2 H2 v2 e2 S2 r2 h => ?_⟩⟩
  obtain ⟨d, st', e, b⟩ := h.ofO
  exact ⟨m2, st2, d1, d2, d, st', S2, r1.mono e2, r2, e, b⟩
theorem b_rule (o : Bop) {X : Cx} (G : Good U R N lv c X) {p : Operator} (h : o.is p = true) : OpR X (binaryOp p) (rS R o.g) := by
  cases o <;> cases p <;> first | (cases h; done) | exact o_add G.K | exact o_sub | exact o_mul | exact o_mod | exact o_div | exact o_pow
theorem c_rule (o : Cop) {X : Cx} (G : Good U R N lv c X) {p : CmpOp} (h : o.is p = true) : OpR X (compareOp p) (rS R o.g) := by
  have hu := G.room.un
  cases o <;> cases p <;> first | (cases h; done) | exact o_eq G.K (by omega) | exact o_ne G.K (by omega) | exact o_lt | exact o_le | exact o_gt | exact o_ge | exact o_isN | exact o_notN | exact OpR.orG (o_inD (by omega)) (o_in G.K (by omega)) | exact OpR.orG (o_notInD (by omega)) (o_notIn G.K (by omega))
theorem s_bin {o : Bop} {p : Operator} {a b : E} {x y : Expr} {pos : Pos} (hp : o.is p = true) (ha : SE U R N lv c (evE N a) x) (hb : SE U R N lv c (evE N b) y) : SE U R N lv c (evE N (.bin o a b)) (.BinOp x p y pos) :=
  fun X W G tk => PE.imp (pe_op (b_rule o G hp) (ha X W G tk) (hb X W G tk)) fun σ H Q h => two_rd (by simpa only [tE, evE] using h)
theorem s_cmp {o : Cop} {p : CmpOp} {a b : E} {x y : Expr} {pos : Pos} (hp : o.is p = true) (hs : noSet y = true) (ha : SE U R N lv c (evE N a) x) (hb : SE U R N lv c (evE N b) y) : SE U R N lv c (evE N (.cmp o a b)) (.Compare x [p] [y] pos) :=
  fun X W G tk => PE.imp (pe_cmpR (c_rule o G hp) (ha X W G tk) (hb X W G tk) (noSet_marks hs)) fun σ H Q h => two_rd (by simpa only [tE, evE] using h)
theorem s_neg {a : E} {x : Expr} {pos : Pos} (ha : SE U R N lv c (evE N a) x) : SE U R N lv c (evE N (.neg a)) (.UnaryOp .USub x pos) := by
  intro X W G tk
  refine PE.imp (pe_un un_neg (ha X W G tk)) fun σ H Q h => ?_
  obtain ⟨m, env, st, hE, S, h⟩ := h
  rw [evE] at h
  refine ⟨m, env, st, hE, S, Fin.bind h fun d1 st1 m1 H1 v1 e1 S1 r1 h => ?_⟩
  split at h
  · cases r1
    exact ⟨_, rfl, h.ok S1 (.int _)⟩
  · exact h.elim
theorem s_and2 {a b : E} {x y : Expr} {ys : List Expr} {pos : Pos} (ha : SE U R N lv c (evE N a) x) (hb : SE U R N lv c (evE N b) (.BoolOp .And (y :: ys) pos)) : SE U R N lv c (evE N (.and2 a b)) (.BoolOp .And (x :: y :: ys) pos) := by
  intro X W G tk
  refine PE.imp (pe_and (ha X W G tk) (hb X W G tk)) fun σ H Q h => ?_
  obtain ⟨m, env, st, hE, S, h⟩ := h
  rw [evE] at h
  refine ⟨m, env, st, hE, S, Fin.bind h fun d1 st1 m1 H1 v1 e1 S1 r1 h => ?_⟩
  split at h
  · cases r1
    exact ⟨true, rfl, iteT ⟨m1, env, st1, hE.mono e1, S1, h⟩⟩
  · cases r1
    exact ⟨false, rfl, iteF (h.ok S1 (.bl _))⟩
  · exact h.elim
theorem s_or2 {a b : E} {x y : Expr} {ys : List Expr} {pos : Pos} (ha : SE U R N lv c (evE N a) x) (hb : SE U R N lv c (evE N b) (.BoolOp .Or (y :: ys) pos)) : SE U R N lv c (evE N (.or2 a b)) (.BoolOp .Or (x :: y :: ys) pos) := by
  intro X W G tk
  refine PE.imp (pe_or (ha X W G tk) (hb X W G tk)) fun σ H Q h => ?_
  obtain ⟨m, env, st, hE, S, h⟩ := h
  rw [evE] at h
  refine ⟨m, env, st, hE, S, Fin.bind h fun d1 st1 m1 H1 v1 e1 S1 r1 h => ?_⟩
  split at h
  · cases r1
    exact ⟨true, rfl, iteT (h.ok S1 (.bl _))⟩
  · cases r1
    exact ⟨false, rfl, iteF ⟨m1, env, st1, hE.mono e1, S1, h⟩⟩
  · exact h.elim
theorem s_one {a : E} {x : Expr} {op : BoolOp} {pos : Pos} (ha : SE U R N lv c (evE N a) x) : SE U R N lv c (evE N (.one a)) (.BoolOp op [x] pos) :=
  fun X W G tk => PE.imp (pe_one (ha X W G tk)) fun σ H Q h => by simpa only [tE, evE] using h
theorem s_notv {a : E} {x : Expr} {pos : Pos} (ha : SE U R N lv c (evE N a) x) : SE U R N lv c (evE N (.notv a)) (.UnaryOp .Not x pos) := by
  intro X W G tk
  refine PE.imp (pe_not (ha X W G tk)) fun σ H Q h => ?_
  obtain ⟨m, env, st, hE, S, h⟩ := h
  rw [evE] at h
  refine ⟨m, env, st, hE, S, Fin.bind h fun d1 st1 m1 H1 v1 e1 S1 r1 h => ?_⟩
  split at h
  · cases r1
    exact ⟨_, rfl, h.ok S1 (.bl _)⟩
  · exact h.elim
theorem s_ite {t : T} {a b : E} {z x y : Expr} {pos : Pos} (ht : ST U R N lv c (evT N t) z) (ha : SE U R N lv c (evE N a) x) (hb : SE U R N lv c (evE N b) y) : SE U R N lv c (evE N (.ite t a b)) (.IfExp z x y pos) := by
  intro X W G tk
  refine PE.imp (pe_ifExp (ht X W G tk) (ha X W G tk) (hb X W G tk)) fun σ H Q h => ?_
  obtain ⟨m, env, st, hE, S, h⟩ := h
  rw [evE] at h
  refine ⟨m, env, st, hE, S, Fin.bind h fun d1 st1 m1 H1 v1 e1 S1 r1 h => ?_⟩
  have r1' : v1 = d1 := r1
  rw [r1']
  cases d1 with
  | true => exact iteT ⟨m1, env, st1, hE.mono e1, S1, h⟩
  | false => exact iteF ⟨m1, env, st1, hE.mono e1, S1, h⟩

/-! arguments -/
theorem s_nil : SA U R N lv c (evEs N .nil) [] := fun X W G tk => PA.imp pa_nil fun σ H Q ⟨m, env, st, hE, S, h⟩ => Fin.ok (d := ([] : List D)) (rel := RelL R) (by rw [evEs] at h; exact h) S RelL.nil
theorem s_cons {a : E} {as : Es} {x : Expr} {xs : List Expr} (hs : noStar x = true) (ha : SE U R N lv c (evE N a) x) (h : SA U R N lv c (evEs N as) xs) : SA U R N lv c (evEs N (.cons a as)) (x :: xs) := by
  intro X W G tk
  refine PA.imp (pa_cons (ha X W G tk) (h X W G tk) (by cases x <;> first | rfl | cases hs)) fun σ H Q h => ?_
  obtain ⟨m, env, st, hE, S, h⟩ := h
  rw [evEs] at h
  refine ⟨m, env, st, hE, S, Fin.bind h fun d1 st1 m1 H1 v1 e1 S1 r1 h => ⟨m1, env, st1, hE.mono e1, S1, Fin.bind h fun d2 st2 m2 H2 v2 e2 S2 r2 h => ?_⟩⟩
  exact h.ok S2 (.cons (r1.mono e2) r2)

/-! calls -/
theorem s_call {k np : Nat} {as : Es} {x : Str} {y : Expr} {ys : List Expr} {p pos : Pos} (hk : U.fns[k]? = some (x, np)) (hg : c.sc.names.lookup x = some .globalImplicit) (hd : (x == ("__debug__" : Str)) = false)
    (hs : (y :: ys).all noStar = true) (ha : SA U R N lv c (evEs N as) (y :: ys)) : SE U R N lv c (evE N (.call k as)) (.Call (.Name x p) (y :: ys) [] pos) := by
  intro X W G tk
  obtain ⟨f, fd, ps, hm, kp, b, F⟩ := G.facts.fns k x np hk
  have hs' := hs
  rw [List.all_cons, Bool.and_eq_true] at hs'
  have hst : ∀ es : List Expr, es.all noStar = true → starEach es X.env = es.map fun e => (false, eval e X.env) := fun es h => starEach_ok h
  refine PE.imp (pe_callS F G.room (by show X.env.scope.names.lookup x = _; rw [G.sc]; exact hg) hm kp b (fun σ => passAt tk σ) (ha X W G tk) hd (by rw [hst _ hs, hst _ hs'.2]; rfl) (backTo_any hs'.2)) fun σ H Q h => ?_
  obtain ⟨m, env, st, hE, S, h⟩ := h
  rw [evE] at h
  refine ⟨m, env, st, hE, S, Fin.bind h fun d1 st1 m1 H1 v1 e1 S1 r1 h => ?_⟩
  exact ⟨m1, d1, st1, r1, S1, h⟩

theorem blt_rule (b : Blt) {X : Cx} (G : Good U R N lv c X) : (bootBuiltins b.name = some (.builtin b.id) ∧ b.ty = false ∧ CallR X (.builtin b.id) (rN R b.g)) ∨ (bootBuiltins b.name = some (.type b.id) ∧ b.ty = true ∧ CallR X (.type b.id) (rN R b.g)) := by
  cases b with
  | len => exact .inl ⟨PySem.boot_len, rfl, c_len G.K⟩
  | min1 => exact .inl ⟨PyProof.Rows.boot_min, rfl, c_min G.K G.calm⟩
  | all => exact .inl ⟨PyProof.Rows.boot_all, rfl, c_all G.K G.calm⟩
  | sorted => exact .inl ⟨PyProof.Rows.boot_sorted, rfl, c_sorted G.K G.calm⟩
  | tuple => exact .inr ⟨PyProof.Rows.boot_tuple, rfl, c_tuple G.K⟩
  | list => exact .inr ⟨PyProof.Rows.boot_list, rfl, c_list G.K G.calm⟩
  | abs => exact .inl ⟨PyProof.Rows.boot_abs, rfl, c_abs⟩
  | int => exact .inr ⟨PyProof.Rows.boot_int, rfl, c_int⟩
theorem star_cons {env : Env} {y : Expr} {ys : List Expr} (hs : (y :: ys).all noStar = true) : starEach (y :: ys) env = (false, eval y env) :: starEach ys env := by
  have hs' := hs
  rw [List.all_cons, Bool.and_eq_true] at hs'
  rw [starEach_ok hs, starEach_ok hs'.2]
  rfl
theorem args_rd {fa : En → Sto → Res (List D)} {g : OpN} {W : WX} {σ : L2.St} {H : Hp} {Q : VK}
    (h : tE R W (fun env st => (fa env st).bind fun ds st => .ofO (g ds st)) σ H Q) : tCB (rN R g) (tA R W fa) σ H Q := by
  obtain ⟨m, env, st, hE, S, h⟩ := h
  refine ⟨m, env, st, hE, S, Fin.bind h fun d1 st1 m1 H1 v1 e1 S1 r1 h => ?_⟩
  obtain ⟨d, st', e, b⟩ := h.ofO
  exact ⟨m1, st1, d1, d, st', S1, r1, e, b⟩
theorem s_blt {b : Blt} {as : Es} {y : Expr} {ys : List Expr} {p pos : Pos} (hf : b.name ∈ U.free) (hg : c.sc.names.lookup b.name = some .globalImplicit)
    (hs : (y :: ys).all noStar = true) (ha : SA U R N lv c (evEs N as) (y :: ys)) : SE U R N lv c (evE N (.blt b as)) (.Call (.Name b.name p) (y :: ys) [] pos) := by
  intro X W G tk
  have hs' := hs
  rw [List.all_cons, Bool.and_eq_true] at hs'
  have gl : Gl X b.name := by
    show X.env.scope.names.lookup b.name = _
    rw [G.sc]
    exact hg
  have hn : b.name ≠ "__name__" := by cases b <;> decide
  have hd : (b.name == ("__debug__" : Str)) = false := by cases b <;> decide
  have key : PE X (.Call (.Name b.name p) (y :: ys) [] pos) (tCB (rN R b.g) (tA R W (evEs N as))) := by
    rcases blt_rule b G with ⟨h1, _, h2⟩ | ⟨h1, _, h2⟩
    · exact pe_callB h2 gl (G.facts.free _ hf) h1 (ha X W G tk) hn hd (star_cons hs) (backTo_any hs'.2)
    · exact pe_callTy h2 gl (G.facts.free _ hf) h1 (ha X W G tk) hn hd (star_cons hs) (backTo_any hs'.2)
  exact PE.imp key fun σ H Q h => args_rd (by simpa only [tE, evE] using h)
theorem tyName_ok {x : Str} {t : String} (h : tyName x = some t) : bootBuiltins x = some (.type t) ∧ x ≠ "__name__" ∧ (x == ("__debug__" : Str)) = false := by
  unfold tyName at h
  split at h
  · rename_i e; cases h; subst e; exact ⟨PyProof.Rows.boot_int, by decide, by decide⟩
  · split at h
    · rename_i e; cases h; subst e; exact ⟨PyProof.Rows.boot_bool, by decide, by decide⟩
    · split at h
      · rename_i e; cases h; subst e; exact ⟨PyProof.Rows.boot_str, by decide, by decide⟩
      · split at h
        · rename_i e; cases h; subst e; exact ⟨PyProof.Rows.boot_tuple, by decide, by decide⟩
        · split at h
          · rename_i e; cases h; subst e; exact ⟨PyProof.Rows.boot_list, by decide, by decide⟩
          · split at h
            · rename_i e; cases h; subst e; exact ⟨by decide +kernel, by decide, by decide⟩
            · cases h
theorem s_isi {a : E} {ty : Str} {t : String} {x : Expr} {p p2 pos : Pos} (ht : tyName ty = some t) (hf : ("isinstance" : Str) ∈ U.free) (hft : ty ∈ U.free) (hg : c.sc.names.lookup ("isinstance" : Str) = some .globalImplicit)
    (hgt : c.sc.names.lookup ty = some .globalImplicit) (hs : noStar x = true) (ha : SE U R N lv c (evE N a) x) : SE U R N lv c (evE N (.isi a ty)) (.Call (.Name "isinstance" p) [x, .Name ty p2] [] pos) := by
  intro X W G tk
  obtain ⟨t1, t2, t3⟩ := tyName_ok ht
  have gl : ∀ {z : Str}, c.sc.names.lookup z = some .globalImplicit → Gl X z := fun {z} h => by
    show X.env.scope.names.lookup z = _
    rw [G.sc]
    exact h
  have hall : ([x, .Name ty p2] : List Expr).all noStar = true := by rw [List.all_cons, hs]; rfl
  refine PE.imp (pe_callB (c_isi G.K t) (gl hg) (G.facts.free _ hf) PyProof.Rows.boot_isinstance (pa_cons (ha X W G tk) (pa_cons (pe_bltn (v := .ty t) (gl hgt) (G.facts.free _ hft) t1 rfl t2 t3) pa_nil) (star_cons hall)) (by decide) (by decide) (star_cons hall) (backTo_any (by rfl))) fun σ H Q h => ?_
  obtain ⟨m, env, st, hE, S, h⟩ := h
  rw [evE, ht] at h
  refine ⟨m, env, st, hE, S, Fin.bind h fun d1 st1 m1 H1 v1 e1 S1 r1 h => ?_⟩
  obtain ⟨d, st', e, b⟩ := h.ofO
  exact ⟨m1, st1, v1, d1, d, st', S1, rfl, r1, e, b⟩
theorem bm_rule (b : Bm) {X : Cx} (G : Good U R N lv c X) : ∃ id, PlainAttrs b.ty ∧ Slot b.ty b.name id ∧ typeOf (.builtin id) = pure (.type "method_descriptor") ∧ MtR X id (rM R b.g) := by
  have hu := G.room.un
  cases b with
  | append => exact ⟨_, PySem.F.plainAttrs_list, PySem.F.slot_list_append, PySem.F.type_list_append, m_append⟩
  | reverse => exact ⟨_, PySem.F.plainAttrs_list, PySem.F.slot_list_reverse, PySem.F.type_list_reverse, m_reverse⟩
  | get2 => exact ⟨_, PySem.F.plainAttrs_dict, PySem.F.slot_dict_get, PySem.F.type_dict_get, m_get2 (by omega)⟩
  | setd => exact ⟨_, PySem.F.plainAttrs_dict, PySem.F.slot_dict_setdefault, PySem.F.type_dict_setdefault, m_setd⟩
theorem s_meth0 {b : Bm} {o : E} {x : Expr} {apos cpos : Pos} (hsu : noSuper x = true) (hl : (apos.endLine == cpos.line) = true) (ho : SE U R N lv c (evE N o) x) :
    SE U R N lv c (evE N (.meth b o .nil)) (.Call (.Attribute x b.name apos) [] [] cpos) := by
  intro X W G tk
  obtain ⟨id, pa, sl, ty, mt⟩ := bm_rule b G
  refine PE.imp (pe_bm0 pa sl ty mt (ho X W G tk) (noSuper_ok hsu) hl) fun σ H Q h => ?_
  obtain ⟨m, env, st, hE, S, h⟩ := h
  rw [evE] at h
  refine ⟨m, env, st, hE, S, Fin.bind h fun d1 st1 m1 H1 v1 e1 S1 r1 h => ?_⟩
  split at h
  · rename_i ht
    rw [evEs] at h
    obtain ⟨d, st', e, b⟩ := Fin.ofO h
    exact ⟨G.K ▸ r1.tyV S1 ht, m1, st1, d1, [], d, st', S1, r1, .nil, e, b⟩
  · exact h.elim
theorem few_ok {env : Env} {cpos : Pos} {es : List Expr} (hs : es.all noStar = true) (hl : es.length < 30) : ((backTo cpos (starEach es env)).all (fun x => !x.1) && (backToKw cpos (keywordEach [] env)).all (fun x => x.1.isSome)
      && decide (es.length + ([] : List Keyword).length + (if ([] : List Keyword).isEmpty then 0 else 1) < 30)) = true := by
  rw [backTo_all hs]
  have e : decide (es.length + ([] : List Keyword).length + (if ([] : List Keyword).isEmpty then 0 else 1) < 30) = true := decide_eq_true (by simpa using hl)
  rw [e]
  rfl
theorem s_meth {b : Bm} {o : E} {as : Es} {x y : Expr} {ys : List Expr} {apos cpos : Pos} (hsu : noSuper x = true) (hl : (apos.endLine == cpos.line) = true) (hn : (y :: ys).length < 30) (hs : (y :: ys).all noStar = true)
    (ho : SE U R N lv c (evE N o) x) (ha : SA U R N lv c (evEs N as) (y :: ys)) : SE U R N lv c (evE N (.meth b o as)) (.Call (.Attribute x b.name apos) (y :: ys) [] cpos) := by
  intro X W G tk
  obtain ⟨id, pa, sl, ty, mt⟩ := bm_rule b G
  have hs' := hs
  rw [List.all_cons, Bool.and_eq_true] at hs'
  refine PE.imp (pe_bm pa sl ty mt (ho X W G tk) (ha X W G tk) (noSuper_ok hsu) (few_ok hs hn) hl (star_cons hs) (backTo_any hs'.2)) fun σ H Q h => ?_
  obtain ⟨m, env, st, hE, S, h⟩ := h
  rw [evE] at h
  refine ⟨m, env, st, hE, S, Fin.bind h fun d1 st1 m1 H1 v1 e1 S1 r1 h => ?_⟩
  split at h
  · rename_i ht
    refine ⟨G.K ▸ r1.tyV S1 ht, m1, env, st1, hE.mono e1, S1, Fin.bind h fun d2 st2 m2 H2 v2 e2 S2 r2 h => ?_⟩
    obtain ⟨d, st', e, b⟩ := h.ofO
    exact ⟨m2, st2, d1, d2, d, st', S2, r1.mono e2, r2, e, b⟩
  · exact h.elim

/-! displays -/
theorem s_tup {as : Es} {xs : List Expr} {k : Nat} {pos : Pos} (ha : SA U R N lv c (evEs N as) xs) : SE U R N lv c (evE N (.tup as)) (.Tuple xs k pos) := by
  intro X W G tk
  refine PE.imp (pe_tup (ha X W G tk)) fun σ H Q h => ?_
  obtain ⟨m, env, st, hE, S, h⟩ := h
  rw [evE] at h
  refine ⟨m, env, st, hE, S, Fin.bind h fun d1 st1 m1 H1 v1 e1 S1 r1 h => ?_⟩
  split at h
  · rename_i hl
    exact ⟨by rw [r1.length]; exact hl, fun p n => Bk.newT h S1 n r1⟩
  · exact h.elim
theorem s_lst {as : Es} {xs : List Expr} {pos : Pos} (ha : SA U R N lv c (evEs N as) xs) : SE U R N lv c (evE N (.lst as)) (.List xs pos) := by
  intro X W G tk
  refine PE.imp (pe_lst (ha X W G tk)) fun σ H Q h => ?_
  obtain ⟨m, env, st, hE, S, h⟩ := h
  rw [evE] at h
  refine ⟨m, env, st, hE, S, Fin.bind h fun d1 st1 m1 H1 v1 e1 S1 r1 h => ?_⟩
  split at h
  · rename_i hl
    exact ⟨by rw [r1.length]; exact hl, fun p n => Bk.newL h S1 n r1⟩
  · exact h.elim
theorem s_dnew {pos : Pos} : SE U R N lv c (evE N .dnew) (.Dict [] [] pos) := by
  intro X W G tk
  refine PE.imp pe_dnewK fun σ H Q h => ?_
  obtain ⟨m, env, st, hE, S, h⟩ := h
  rw [evE] at h
  exact fun p n => Bk.new (o := .dic []) h S n ⟨[], upd_same, .nil⟩
theorem s_dic1 {a b : E} {x y : Expr} {pos : Pos} (ha : SE U R N lv c (evE N a) x) (hb : SE U R N lv c (evE N b) y) : SE U R N lv c (evE N (.dic1 a b)) (.Dict [some x] [y] pos) := by
  intro X W G tk
  refine PE.imp (pe_disp (pps_cons (ha X W G tk) (hb X W G tk) pps_nil) (by rfl) (by rfl) (fun z => nomatch z) (show 1 ≤ 15 by decide)) fun σ H Q h => ?_
  obtain ⟨m, env, st, hE, S, h⟩ := h
  rw [evE] at h
  intro p n
  have S0 : RelSt R (m ++ [p]) (upd H p (.dK [])) (st ++ [.dic []]) := S.alloc n ⟨[], upd_same, .nil⟩
  have e0 : Ext R m H (m ++ [p]) (upd H p (.dK [])) := Ext.alloc n
  have hp : (m ++ [p])[st.length]? = some p := by
    rw [← S.len, List.getElem?_append_right (Nat.le_refl _), Nat.sub_self]
    rfl
  refine ⟨m ++ [p], env, _, hE.mono e0, S0, Fin.bind (Fin.mono e0 h) fun d1 st1 m1 H1 v1 e1 S1 r1 h => ⟨m1, env, st1, (hE.mono e0).mono e1, S1, Fin.bind h fun d2 st2 m2 H2 v2 e2 S2 r2 h => ?_⟩⟩
  split at h
  · rename_i k h1 h2
    have hp2 : m2[st.length]? = some p := e2.pre _ _ (e1.pre _ _ hp)
    obtain ⟨ks, hk, rk⟩ := S2.at_ _ _ _ h1 hp2
    cases rk
    refine ⟨hk, [(k, v2)], by rw [r1.key h2]; rfl, (show 1 ≤ 15 by decide), ?_⟩
    have mu : Mut (H2 p) := by
      rw [hk]
      exact True.intro
    exact Bk.put (o' := .dic [(k, d2)]) (v := .ref p) h S2 h1 hp2 rfl rfl ⟨_, upd_same, .cons ⟨rfl, r2.mono (Ext.write mu)⟩ .nil⟩ (.ref hp2)
  · exact h.elim

/-! items, slices -/
theorem s_ix {a i : E} {x y : Expr} {pos : Pos} (hp : plainIx y = true) (ha : SE U R N lv c (evE N a) x) (hi : SE U R N lv c (evE N i) y) : SE U R N lv c (evE N (.ix a i)) (.Subscript x y pos) := by
  intro X W G tk
  have hu := G.room.un
  exact PE.imp (pe_ix (IxR.orG (o_ix G.K) (o_ixD (by omega))) (ha X W G tk) (hi X W G tk) (plainIx_ok hp)) fun σ H Q h => two_rd (by simpa only [tE, evE] using h)
abbrev EqO : List Addr → Hp → Option Int → Option Int → Prop := fun _ _ b b' => b = b'
def tO (R : Rt) (W : WX) (f : En → Sto → Res (Option Int)) : TO := fun σ H Q => ∃ m env st, RelE R m H σ env ∧ RelSt R m H st ∧ Fin R W EqO m H σ Q (f env st)
def SO (U : Nms) (R : Rt) (N : Rn) (lv : Nat) (c : Ctx) (f : En → Sto → Res (Option Int)) (e : Option Expr) : Prop := ∀ X W, Good U R N lv c X → Takes X W → PO X e (tO R W f)
theorem s_ono : SO U R N lv c (evEo N .no) none := fun X W G tk => ⟨fun pins s σ H Q I h => po_none.run pins s σ H Q I (by
  obtain ⟨m, env, st, hE, S, h⟩ := h
  rw [evEo] at h
  exact h.ok S rfl)⟩
theorem s_oyes {a : E} {x : Expr} (ha : SE U R N lv c (evE N a) x) : SO U R N lv c (evEo N (.yes a)) (some x) := fun X W G tk => ⟨fun pins s σ H Q I h => (po_some (ha X W G tk)).run pins s σ H Q I (by
  obtain ⟨m, env, st, hE, S, h⟩ := h
  rw [evEo] at h
  refine ⟨m, env, st, hE, S, Fin.bind h fun d1 st1 m1 H1 v1 e1 S1 r1 h => ?_⟩
  split at h
  · cases r1
    exact ⟨_, rfl, h.ok S1 rfl⟩
  · exact h.elim)⟩
theorem s_sl {a : E} {lo hi : Eo} {x : Expr} {l u : Option Expr} {p2 pos : Pos} (ha : SE U R N lv c (evE N a) x) (hl : SO U R N lv c (evEo N lo) l) (hu : SO U R N lv c (evEo N hi) u) :
    SE U R N lv c (evE N (.sl a lo hi)) (.Subscript x (.Slice l u none p2) pos) := by
  intro X W G tk
  refine PE.imp (pe_slice (o_sl (R := R) G.K) (ha X W G tk) (hl X W G tk) (hu X W G tk)) fun σ H Q h => ?_
  obtain ⟨m, env, st, hE, S, h⟩ := h
  rw [evE] at h
  refine ⟨m, env, st, hE, S, Fin.bind h fun d1 st1 m1 H1 v1 e1 S1 r1 h => ⟨m1, env, st1, hE.mono e1, S1, Fin.bind h fun d2 st2 m2 H2 v2 e2 S2 r2 h => ⟨m2, env, st2, (hE.mono e1).mono e2, S2, Fin.bind h fun d3 st3 m3 H3 v3 e3 S3 r3 h => ?_⟩⟩⟩
  obtain ⟨d, st', e, b⟩ := h.ofO
  have q2 : v2 = d2 := r2
  have q3 : v3 = d3 := r3
  subst q2 q3
  exact ⟨m3, st3, d1, d, st', S3, (r1.mono e2).mono e3, e, b⟩

/-! tests -/
theorem Rel.truth {m : List Addr} {H : Hp} {st : Sto} {v : V} {d : D} {b : Bool} (S : RelSt R m H st) (r : Rel R m H v d) (e : d.truth st = some b) : TruV R.K v H b := by
  cases r with
  | non => cases e; rfl
  | bl b => cases e; rfl
  | int i => cases e; rfl
  | str x =>
    dsimp only [D.truth] at e
    split at e
    · rename_i hl
      cases e
      exact ⟨hl, rfl⟩
    · cases e
  | tup ha hs =>
    cases e
    refine .inr (.inl ⟨_, ha, ?_⟩)
    cases hs <;> rfl
  | ref ha =>
    dsimp only [D.truth] at e
    split at e
    · rename_i h1
      cases e
      obtain ⟨xs, sq, rl⟩ := sqlS (.inl (S.at_ _ _ _ h1 ha))
      exact .inl ⟨xs, sq, by cases rl <;> rfl⟩
    · rename_i h1
      cases e
      obtain ⟨xs, sq, rl⟩ := sqlS (.inr (S.at_ _ _ _ h1 ha))
      exact .inl ⟨xs, sq, by cases rl <;> rfl⟩
    · rename_i h1
      cases e
      obtain ⟨ks, hk, rk⟩ := S.at_ _ _ _ h1 ha
      exact .inr (.inr ⟨ks, hk, by cases rk <;> rfl⟩)
    · cases e
theorem s_tval {a : E} {x : Expr} (hp : plainT x = true) (ha : SE U R N lv c (evE N a) x) : ST U R N lv c (evT N (.val a)) x := by
  intro X W G tk
  refine PT.imp (pt_truth (ha X W G tk) (plainT_ok hp)) fun σ H Q h => ?_
  obtain ⟨m, env, st, hE, S, h⟩ := h
  rw [evT] at h
  refine ⟨m, env, st, hE, S, Fin.bind h fun d1 st1 m1 H1 v1 e1 S1 r1 h => ?_⟩
  split at h
  · rename_i b e
    exact ⟨b, G.K ▸ r1.truth S1 e, h.ok S1 rfl⟩
  · exact h.elim
theorem s_tcmp {o : Cop} {p : CmpOp} {a b : E} {x y : Expr} {pos : Pos} (hp : o.is p = true) (hs : noSet y = true) (ha : SE U R N lv c (evE N a) x) (hb : SE U R N lv c (evE N b) y) : ST U R N lv c (evT N (.cmp o a b)) (.Compare x [p] [y] pos) := by
  intro X W G tk
  refine PT.imp (pt_cmpR (c_rule o G hp) (ha X W G tk) (hb X W G tk) (noSet_marks hs)) fun σ H Q h => ?_
  obtain ⟨m, env, st, hE, S, h⟩ := h
  rw [evT] at h
  refine ⟨m, env, st, hE, S, Fin.bind h fun d1 st1 m1 H1 v1 e1 S1 r1 h => ⟨m1, env, st1, hE.mono e1, S1, Fin.bind h fun d2 st2 m2 H2 v2 e2 S2 r2 h => ?_⟩⟩
  cases q : o.g d1 d2 st2 with
  | none => rw [q] at h; exact h.elim
  | some z =>
    rw [q] at h
    refine ⟨m2, st2, d1, d2, z.1, z.2, S2, r1.mono e2, r2, q, fun m3 H3 v3 e3 S3 r3 => ?_⟩
    have h := Fin.mono e3 (show Fin R W EqB m2 H2 σ Q (match z.1 with | .bl b => .ok b z.2 | _ => .bad) from h)
    split at h
    · rename_i e
      rw [e] at r3
      cases r3
      exact ⟨_, rfl, h.ok S3 rfl⟩
    · exact h.elim
theorem s_tnot {a : T} {x : Expr} {pos : Pos} (ha : ST U R N lv c (evT N a) x) : ST U R N lv c (evT N (.not a)) (.UnaryOp .Not x pos) := by
  intro X W G tk
  refine PT.imp (pt_not (ha X W G tk)) fun σ H Q h => ?_
  obtain ⟨m, env, st, hE, S, h⟩ := h
  rw [evT] at h
  refine ⟨m, env, st, hE, S, Fin.bind h fun d1 st1 m1 H1 v1 e1 S1 r1 h => ?_⟩
  have r1' : v1 = d1 := r1
  rw [r1']
  exact h.ok S1 rfl
theorem PW.imp {X : Cx} {e : Expr} {t t' : TT} (h : PW X e t) (k : ∀ σ H Q, t' σ H Q → t σ H Q) : PW X e t' := ⟨fun wh pins s σ H Q I q => h.run wh pins s σ H Q I (k σ H Q q)⟩
theorem s_and1 {a : T} {x : Expr} {pos : Pos} (ha : ST U R N lv c (evT N a) x) : SW U R N lv c (evAnd N (.one a)) (.BoolOp .And [x] pos) :=
  fun X W G tk => PW.imp (pw_and1 (ha X W G tk)) fun σ H Q h => by simpa only [tT, evAnd] using h
theorem s_or1 {a : T} {x : Expr} {pos : Pos} (ha : ST U R N lv c (evT N a) x) : SW U R N lv c (evOr N (.one a)) (.BoolOp .Or [x] pos) :=
  fun X W G tk => PW.imp (pw_or1 (ha X W G tk)) fun σ H Q h => by simpa only [tT, evOr] using h
theorem s_and {a : T} {r : Ch} {x y : Expr} {ys : List Expr} {pos : Pos} (ha : ST U R N lv c (evT N a) x) (hb : SW U R N lv c (evAnd N r) (.BoolOp .And (y :: ys) pos)) : SW U R N lv c (evAnd N (.cons a r)) (.BoolOp .And (x :: y :: ys) pos) := by
  intro X W G tk
  refine PW.imp (pw_and (ha X W G tk) (hb X W G tk)) fun σ H Q h => ?_
  obtain ⟨m, env, st, hE, S, h⟩ := h
  rw [evAnd] at h
  refine ⟨m, env, st, hE, S, Fin.bind h fun d1 st1 m1 H1 v1 e1 S1 r1 h => ?_⟩
  have r1' : v1 = d1 := r1
  rw [r1']
  cases d1 with
  | true => exact iteT ⟨m1, env, st1, hE.mono e1, S1, h⟩
  | false => exact iteF (h.ok S1 rfl)
theorem s_or {a : T} {r : Ch} {x y : Expr} {ys : List Expr} {pos : Pos} (ha : ST U R N lv c (evT N a) x) (hb : SW U R N lv c (evOr N r) (.BoolOp .Or (y :: ys) pos)) : SW U R N lv c (evOr N (.cons a r)) (.BoolOp .Or (x :: y :: ys) pos) := by
  intro X W G tk
  refine PW.imp (pw_or (ha X W G tk) (hb X W G tk)) fun σ H Q h => ?_
  obtain ⟨m, env, st, hE, S, h⟩ := h
  rw [evOr] at h
  refine ⟨m, env, st, hE, S, Fin.bind h fun d1 st1 m1 H1 v1 e1 S1 r1 h => ?_⟩
  have r1' : v1 = d1 := r1
  rw [r1']
  cases d1 with
  | true => exact iteT (h.ok S1 rfl)
  | false => exact iteF ⟨m1, env, st1, hE.mono e1, S1, h⟩
theorem s_tand {r : Ch} {x : Expr} (h : SW U R N lv c (evAnd N r) x) : ST U R N lv c (evT N (.and r)) x := fun X W G tk => PT.imp (h X W G tk).pt fun σ H Q h => by simpa only [tT, evT] using h
theorem s_tor {r : Ch} {x : Expr} (h : SW U R N lv c (evOr N r) x) : ST U R N lv c (evT N (.or r)) x := fun X W G tk => PT.imp (h X W G tk).pt fun σ H Q h => by simpa only [tT, evT] using h
end
end FL
set_option Elab.async false
set_option linter.all false
set_option maxRecDepth 100000
set_option maxHeartbeats 1000000
/-! FL6: targets, what is walked, comprehensions. -/
namespace FL
open PySem PySem.Spec PyProof.Rows L2

section
variable {U : Nms} {R : Rt} {N : Rn} {lv : Nat} {c : Ctx}
theorem PG.imp {X : Cx} {e : Expr} {t t' : TG} (h : PG X e t) (k : ∀ v σ H Q, t' v σ H Q → t v σ H Q) : PG X e t' := ⟨fun pins s σ H v u Q I r q => h.run pins s σ H v u Q I r (k v σ H Q q)⟩
theorem PGs.imp {X : Cx} {e : List Expr} {t t' : TGs} (h : PGs X e t) (k : ∀ v σ H Q, t' v σ H Q → t v σ H Q) : PGs X e t' := ⟨fun pins s σ H v u Q I r q => h.run pins s σ H v u Q I r (k v σ H Q q)⟩
theorem FinG.mono {W : WX} {sl : List Nat} {m m' : List Addr} {H H' : Hp} {σ σ' : L2.St} {Q : L2.St → Hp → Prop} (e : Ext R m H m' H') (k : Keeps sl σ σ') {r : Res En} (h : FinG R W sl m H σ Q r) : FinG R W sl m' H' σ' Q r := by
  cases r with
  | ok env st => exact fun m2 H2 s2 e2 S2 E2 k2 => h m2 H2 s2 (e.trans e2) S2 E2 (k.trans k2)
  | exc cc fs st => exact fun m2 H2 s2 cls dx e2 S2 k2 => h m2 H2 s2 cls dx (e.trans e2) S2 (k.trans k2)
  | bad => exact h
theorem FinG.ok {W : WX} {sl : List Nat} {m : List Addr} {H : Hp} {σ σ' : L2.St} {Q : L2.St → Hp → Prop} {env : En} {st : Sto} (h : FinG R W sl m H σ Q (.ok env st)) (S : RelSt R m H st) (E : RelE R m H σ' env) (k : Keeps sl σ σ') : Q σ' H :=
  h m H σ' Ext.refl S E k
/-- an expression first, then a store -/
theorem FinG.bindE {α β : Type} {rel : List Addr → Hp → β → α → Prop} {W : WX} {sl : List Nat} {m : List Addr} {H : Hp} {σ : L2.St} {Q : L2.St → Hp → Prop} {Q1 : β → Hp → Prop} {r : Res α} {g : α → Sto → Res En} (h : FinG R W sl m H σ Q (r.bind g))
    (k : ∀ d st' m' H' v, Ext R m H m' H' → RelSt R m' H' st' → rel m' H' v d → FinG R W sl m' H' σ Q (g d st') → Q1 v H') : Fin R W rel m H σ Q1 r := by
  cases r with
  | ok d st => exact fun m' H' v e s x => k d st m' H' v e s x (FinG.mono e Keeps.refl h)
  | exc c fs st => exact fun m' H' cls dx e s x => h m' H' σ cls dx e s Keeps.refl x
  | bad => exact h
theorem FinG.bindG {W : WX} {sl sl1 : List Nat} {m : List Addr} {H : Hp} {σ : L2.St} {Q : L2.St → Hp → Prop} {Q1 : L2.St → Hp → Prop} {r : Res En} {g : En → Sto → Res En} (h : FinG R W sl m H σ Q (r.bind g)) (hs : ∀ i ∈ sl1, i ∈ sl)
    (k : ∀ env st' m' H' σ', Ext R m H m' H' → RelSt R m' H' st' → RelE R m' H' σ' env → Keeps sl1 σ σ' → FinG R W sl m' H' σ' Q (g env st') → Q1 σ' H') : FinG R W sl1 m H σ Q1 r := by
  cases r with
  | ok env st => exact fun m' H' σ' e s E kk => k env st m' H' σ' e s E kk (FinG.mono e (kk.mono hs) h)
  | exc c fs st => exact fun m' H' σ' cls dx e s kk x => h m' H' σ' cls dx e s (kk.mono hs) x
  | bad => exact h

theorem g_name {i : Nat} {x : Str} {pos : Pos} {sl : List Nat} (hi : i ∈ sl) (hN : c.N[i]? = some x) (hx : c.sc.names.lookup x = some .local ∨ (c.sc.names.lookup x = some .cell ∧ c.fn x = true)) : SG U R N lv c sl (evTg N (.name i)) (.Name x pos) := by
  intro X W G tk
  have e1 : X.env.scope.names.lookup x = c.sc.names.lookup x := by rw [G.sc]
  refine PG.imp (pg_name (i := i) (by rw [G.nm]; exact G.nd) (by rw [G.nm]; exact hN) ?_ ?_) fun v σ H Q h => ?_
  · rcases hx with h | h
    · exact .inl (e1.trans h)
    · exact .inr (e1.trans h.1)
  · rcases hx with h | h
    · exact .inr (e1.trans h)
    · exact .inl (by rw [G.fn]; exact h.2)
  · obtain ⟨m, env, st, d, hE, S, r, h⟩ := h
    rw [evTg] at h
    exact h.ok S (hE.set i r) (Keeps.set hi)
theorem g_nil {sl : List Nat} : SGs U R N lv c sl (evTgs N .nil) [] := fun X W G tk => PGs.imp pgs_nil fun vs σ H Q h => by
  obtain ⟨m, env, st, ds, hE, S, r, h⟩ := h
  cases r with
  | nil =>
    rw [evTgs] at h
    exact ⟨rfl, h.ok S hE Keeps.refl⟩
  | cons a b => exact h.elim
theorem g_cons {t : Tg} {ts : Tgs} {x : Expr} {xs : List Expr} {sl1 sl2 sl : List Nat} (hn : noStar x = true) (hs1 : ∀ i ∈ sl1, i ∈ sl) (hs2 : ∀ i ∈ sl2, i ∈ sl) (h1 : SG U R N lv c sl1 (evTg N t) x) (h2 : SGs U R N lv c sl2 (evTgs N ts) xs) : SGs U R N lv c sl (evTgs N (.cons t ts)) (x :: xs) := by
  intro X W G tk
  refine PGs.imp (pgs_cons (h1 X W G tk) (h2 X W G tk) (by cases x <;> first | rfl | cases hn)) fun vs σ H Q h => ?_
  obtain ⟨m, env, st, ds, hE, S, r, h⟩ := h
  cases r with
  | nil => exact h.elim
  | @cons v vs d ds r rs =>
    rw [evTgs] at h
    refine ⟨v, vs, rfl, m, env, st, d, hE, S, r, FinG.bindG h hs1 fun env' st' m' H' σ' e S' E' kk h => ⟨m', env', st', ds, E', S', rs.mono e, ?_⟩⟩
    cases q : evTgs N ts ds env' st' with
    | ok e2 s2 =>
      rw [q] at h
      exact fun m2 H2 s3 e3 S3 E3 k3 => h m2 H2 s3 e3 S3 E3 (k3.mono hs2)
    | exc cc fs s2 =>
      rw [q] at h
      exact fun m2 H2 s3 cls dx e3 S3 k3 x => h m2 H2 s3 cls dx e3 S3 (k3.mono hs2) x
    | bad =>
      rw [q] at h
      exact h
theorem g_tup {ts : Tgs} {xs : List Expr} {k : Nat} {pos : Pos} {sl : List Nat} (hn : xs.all noStar = true) (hl : xs.length = ts.len) (h : SGs U R N lv c sl (evTgs N ts) xs) : SG U R N lv c sl (evTg N (.tup ts)) (.Tuple xs k pos) := by
  intro X W G tk
  refine PG.imp (pg_tup (n := ts.len) G.calm (h X W G tk) ((assignEach_len hn).trans hl) (assignEach_find hn)) fun v σ H Q h => ?_
  obtain ⟨m, env, st, d, hE, S, r, h⟩ := h
  cases r with
  | tup ha hs =>
    rw [evTg] at h
    split at h
    · rename_i hl
      exact ⟨_, _, rfl, G.K ▸ ha, hs.length.trans hl, m, env, st, _, hE, S, hs, h⟩
    · exact h.elim
  | _ => exact (show False from h).elim

/-! ### a store into a list or a dict -/
def rSet (R : Rt) : TSet := fun o i v H Q => ∃ m st x y d st', RelSt R m H st ∧ Rel R m H o x ∧ Rel R m H i y ∧ Rel R m H v d ∧ setSub x y d st = some st' ∧ ∀ m' H', Ext R m H m' H' → RelSt R m' H' st' → Q H'
theorem set_ok {X : Cx} (hK : X.K = R.K) (hu : X.A.units + 1 < cLine) : PSet X (rSet R) := by
  intro pins s σ H o i v ov iv u Q I ro ri rv h
  obtain ⟨m, st, x, y, d, st', S, rx, ry, rd, e, q⟩ := h
  unfold setSub at e
  split at e
  · rename_i r
    cases rx with
    | @ref _ a ha =>
      obtain rfl : ov = Value.ref a := ro
      split at e
      · rename_i ds h1
        obtain ⟨xs, hx, rl⟩ := S.at_ _ _ _ h1 ha
        split at e
        · rename_i k
          cases q0 : ixN ds.length k with
          | none => rw [q0] at e; cases e
          | some j =>
            rw [q0] at e
            cases e
            cases ry
            have mu := (S.at_ _ _ _ h1 ha).chg rfl
            have key := set_list (X := X) pins s σ H (.ref a) (.int k) v (.ref a) iv u Q I rfl ri rv
            refine key ⟨a, xs, k, j, rfl, rfl, hx, by rw [rl.length]; exact q0, ?_⟩
            exact q m _ (Ext.write mu) (S.write h1 ha rfl rfl ⟨_, upd_same, ((rl.set rd j).mono (Ext.write mu))⟩)
        · cases e
      · rename_i kvs h1
        obtain ⟨ks, hk, rk⟩ := S.at_ _ _ _ h1 ha
        split at e
        · rename_i k h2
          split at e
          · rename_i hl
            cases e
            have mu := (S.at_ _ _ _ h1 ha).chg rfl
            refine d_setItem hu I ((ry.key h2) ▸ DPut.k hk (by rw [rk.length]; exact hl)) ri rv fun s' I' => ⟨_, I', ?_⟩
            exact q m _ (Ext.write mu) (S.write h1 ha rfl rfl ⟨_, upd_same, RelKV.mono (Ext.write mu) (RelKV.put k rd rk)⟩)
          · cases e
        · cases e
      · cases e
  · cases e
theorem noSl_assign {o i : Expr} {env : Env} {pos : Pos} (h : plainIx i = true) (v : Value) : assign (.Subscript o i pos) env v = (do
      let ov ← holding [v] (eval o env)
      let iv ← holding [v, ov] (eval i env)
      standAt pos
      holding [v, ov, iv] (setItem ov iv v)
      release [v, ov, iv] []) := by
  cases i <;> first | rfl | cases h
theorem g_sub {a b : E} {x y : Expr} {pos : Pos} {sl : List Nat} (hp : plainIx y = true) (ha : SE U R N lv c (evE N a) x) (hb : SE U R N lv c (evE N b) y) : SG U R N lv c sl (evTg N (.sub a b)) (.Subscript x y pos) := by
  intro X W G tk
  have hu := G.room.un
  refine PG.imp (pg_sub (ha X W G tk) (hb X W G tk) (set_ok (R := R) G.K (by omega)) (noSl_assign hp)) fun v σ H Q h => ?_
  obtain ⟨m, env, st, d, hE, S, r, h⟩ := h
  rw [evTg] at h
  refine ⟨m, env, st, hE, S, FinG.bindE h fun d1 st1 m1 H1 v1 e1 S1 r1 h => ⟨m1, env, st1, hE.mono e1, S1, FinG.bindE h fun d2 st2 m2 H2 v2 e2 S2 r2 h => ?_⟩⟩
  split at h
  · rename_i st' e
    exact ⟨m2, st2, d1, d2, d, st', S2, r1.mono e2, r2, (r.mono e1).mono e2, e, fun m' H' e3 S3 => h m' H' σ e3 S3 (((hE.mono e1).mono e2).mono e3) Keeps.refl⟩
  · exact h.elim

/-! ### what is walked -/
theorem j_items_tup {m : List Addr} {H : Hp} {a : Addr} {xs : List V} {ds : List D} (ha : SqT R.K H a xs) (hs : RelL R m H xs ds) : RelJ R m H (Itt R.K a) (.items ds) := by
  intro m' H' st' i e S
  show match (some ds[i]? : Option (Option D)) with | none => True | some none => _ | some (some d) => _
  have ha' := e.tup _ _ ha
  have hs' := hs.mono e
  cases q : ds[i]? with
  | none => exact ⟨xs, ha', by rw [hs.length]; exact List.getElem?_eq_none_iff.mp q⟩
  | some d =>
    obtain ⟨v, hv, rv⟩ := hs'.get q
    refine ⟨⟨xs, v, ha', hv⟩, fun x H2 y => ?_⟩
    obtain ⟨rfl, hy⟩ := y
    have e1 : v = x := Option.some.inj (hv.symm.trans (hy xs ha'))
    subst e1
    exact ⟨m', Ext.refl, S, rv⟩
theorem j_live {m : List Addr} {H : Hp} {a : Addr} {r W : Nat} (ha : m[r]? = some a) : RelJ R m H (Itl R.K a) (.live W r) := by
  intro m' H' st' i e S
  show match ((lstOf st' r).map fun ds => ds[i]? : Option (Option D)) with | none => True | some none => _ | some (some d) => _
  have ha' := e.pre _ _ ha
  cases q0 : lstOf st' r with
  | none => trivial
  | some ds =>
    obtain ⟨xs, sq, rl⟩ := lstOf_sq S q0 ha'
    rw [Option.map_some]
    cases q : ds[i]? with
    | none => exact ⟨xs, sq, by rw [rl.length]; exact List.getElem?_eq_none_iff.mp q⟩
    | some d =>
      obtain ⟨v, hv, rv⟩ := rl.get q
      refine ⟨⟨xs, v, sq, hv⟩, fun x H2 y => ?_⟩
      obtain ⟨rfl, hy⟩ := y
      have e1 : v = x := Option.some.inj (hv.symm.trans (hy xs sq))
      subst e1
      exact ⟨m', Ext.refl, S, rv⟩
theorem rngD_get (lo : Int) (n i : Nat) : (rngD lo n)[i]? = if i < n then some (.int (lo + (i : Int))) else none := by
  unfold rngD
  rw [List.getElem?_map]
  by_cases h : i < n
  · rw [List.getElem?_range h, if_pos h]
    rfl
  · rw [List.getElem?_eq_none (by rw [List.length_range]; omega), if_neg h]
    rfl
theorem j_range {m : List Addr} {H : Hp} {lo : Int} {n : Nat} : RelJ R m H (Itr lo n) (.items (rngD lo n)) := by
  intro m' H' st' i e S
  show match (some (rngD lo n)[i]? : Option (Option D)) with | none => True | some none => _ | some (some d) => _
  rw [rngD_get]
  by_cases h : i < n
  · rw [if_pos h]
    refine ⟨h, fun x H2 y => ?_⟩
    obtain ⟨rfl, rfl⟩ := y
    exact ⟨m', Ext.refl, S, .int _⟩
  · rw [if_neg h]
    exact Nat.le_of_not_lt h
theorem i_seq {a : E} {x : Expr} (ha : SE U R N lv c (evE N a) x) : SI U R N lv c (evIt N (.seq a)) x := by
  intro X W tg G tk
  refine PI.imp (PI.or (pi_list (ha X W G tk)) (pi_tup (ha X W G tk))) fun σ H Q h => ?_
  obtain ⟨m, env, st, hE, S, h⟩ := h
  rw [evIt] at h
  rw [G.K]
  cases q : evE N a env st with
  | bad => rw [q] at h; exact h.elim
  | exc cc fs s2 => exact .inl ⟨m, env, st, hE, S, by rw [q] at h ⊢; exact h⟩
  | ok d s2 =>
    simp only [q, Res.bind] at h
    split at h
    · rename_i ds
      refine .inr ⟨m, env, st, hE, S, ?_⟩
      rw [q]
      intro m' H' v e S' r
      cases r with
      | tup ht hs => exact ⟨_, rfl, ⟨_, ht⟩, (Fin.mono e h).ok S' (j_items_tup ht hs)⟩
    · rename_i r
      split at h
      · rename_i ds h1
        refine .inl ⟨m, env, st, hE, S, ?_⟩
        rw [q]
        intro m' H' v e S' r
        cases r with
        | ref hr =>
          obtain ⟨xs, sq, _⟩ := lstOf_sq S' h1 hr
          exact ⟨_, rfl, ⟨_, sq⟩, (Fin.mono e h).ok S' (j_live hr)⟩
      · exact h.elim
    · exact h.elim
theorem i_rng1 {a : E} {x : Expr} {p pos : Pos} (hf : ("range" : Str) ∈ U.free) (hg : c.sc.names.lookup ("range" : Str) = some .globalImplicit) (hs : noStar x = true) (ha : SE U R N lv c (evE N a) x) :
    SI U R N lv c (evIt N (.rng1 a)) (.Call (.Name "range" p) [x] [] pos) := by
  intro X W tg G tk
  have h1 : ([x] : List Expr).all noStar = true := by rw [List.all_cons, hs]; rfl
  refine PI.imp (pi_range1 (by show X.env.scope.names.lookup _ = _; rw [G.sc]; exact hg) (G.facts.free _ hf) (pa_cons (ha X W G tk) pa_nil (star_cons h1)) (by rw [starEach_ok h1]; rfl)) fun σ H Q h => ?_
  obtain ⟨m, env, st, hE, S, h⟩ := h
  rw [evIt] at h
  refine ⟨m, env, st, hE, S, Fin.bind h fun d1 st1 m1 H1 v1 e1 S1 r1 h => ?_⟩
  split at h
  · split at h
    · rename_i hl
      cases r1
      exact ⟨_, rfl, hl.1, hl.2, h.ok S1 j_range⟩
    · exact h.elim
  · exact h.elim
theorem i_rng2 {a b : E} {x y : Expr} {p pos : Pos} (hf : ("range" : Str) ∈ U.free) (hg : c.sc.names.lookup ("range" : Str) = some .globalImplicit) (hs : noStar x = true) (hs' : noStar y = true) (ha : SE U R N lv c (evE N a) x)
    (hb : SE U R N lv c (evE N b) y) : SI U R N lv c (evIt N (.rng2 a b)) (.Call (.Name "range" p) [x, y] [] pos) := by
  intro X W tg G tk
  have h2 : ([y] : List Expr).all noStar = true := by rw [List.all_cons, hs']; rfl
  have h1 : ([x, y] : List Expr).all noStar = true := by rw [List.all_cons, hs, h2]; rfl
  refine PI.imp (pi_range2 (by show X.env.scope.names.lookup _ = _; rw [G.sc]; exact hg) (G.facts.free _ hf) (pa_cons (ha X W G tk) (pa_cons (hb X W G tk) pa_nil (star_cons h2)) (star_cons h1)) (by rw [starEach_ok h1]; rfl) (by rw [starEach_ok h2]; rfl)) fun σ H Q h => ?_
  obtain ⟨m, env, st, hE, S, h⟩ := h
  rw [evIt] at h
  refine ⟨m, env, st, hE, S, Fin.bind h fun d1 st1 m1 H1 v1 e1 S1 r1 h => ⟨m1, env, st1, hE.mono e1, S1, Fin.bind h fun d2 st2 m2 H2 v2 e2 S2 r2 h => ?_⟩⟩
  split at h
  · split at h
    · rename_i hl
      cases r1
      cases r2
      exact ⟨_, _, rfl, hl, h.ok S2 j_range⟩
    · exact h.elim
  · exact h.elim

/-! ### comprehensions -/
def STs (U : Nms) (R : Rt) (N : Rn) (lv : Nat) (c : Ctx) (f : En → Sto → Res Bool) (es : List Expr) : Prop := ∀ X W, Good U R N lv c X → Takes X W → PTs X es (tT R W f)
theorem PTs.imp {X : Cx} {e : List Expr} {t t' : TT} (h : PTs X e t) (k : ∀ σ H Q, t' σ H Q → t σ H Q) : PTs X e t' := ⟨fun pins s σ H Q I q => h.run pins s σ H Q I (k σ H Q q)⟩
theorem co_no : STs U R N lv c (evCo N .no) [] := fun X W G tk => PTs.imp pts_nil fun σ H Q h => by
  obtain ⟨m, env, st, hE, S, h⟩ := h
  rw [evCo] at h
  exact h.ok S rfl
theorem co_yes {t : T} {x : Expr} (h : ST U R N lv c (evT N t) x) : STs U R N lv c (evCo N (.yes t)) [x] := fun X W G tk => PTs.imp (pts_one (h X W G tk)) fun σ H Q h => by simpa only [tT, evCo] using h
/-- the context of a comprehension's block -/
def Ctx.blk (c : Ctx) (scope : Scope) : Ctx := ⟨relS scope c.sc, c.N, fun x => scope.names.lookup x == some .cell⟩
theorem Good.blk {X : Cx} (G : Good U R N lv c X) (s : Shared) (H : Hp) (scope : Scope) (C : Addr) (cl : List (Str × Addr)) (fp : List Addr) : Good U R N lv (c.blk scope) (X.blk s H scope (compEnvC scope cl C X.env) fp) := by
  refine ⟨?_, G.nm, G.nd, rfl, G.calm, G.room, G.K, G.facts⟩
  show relS scope X.env.scope = relS scope c.sc
  rw [G.sc]
theorem wipeE_rel {m : List Addr} {H : Hp} {σ : L2.St} {env : En} (h : RelE R m H σ env) : ∀ vs : List Nat, RelE R m H (wipe σ vs) (wipeE env vs)
  | [] => h
  | v :: vs => by
    have ih := wipeE_rel h vs
    refine ⟨by unfold wipe wipeE; rw [List.length_set, List.length_set]; exact ih.1, fun i d e => ?_⟩
    unfold wipeE at e
    rw [List.getElem?_set] at e
    split at e
    · split at e <;> cases e
    · rename_i hne
      obtain ⟨w, h1, h2⟩ := ih.2 i d e
      exact ⟨w, by unfold wipe; rw [List.getElem?_set_ne hne]; exact h1, h2⟩
theorem wipe_get {σ : L2.St} {i : Nat} : ∀ {vs : List Nat}, i ∉ vs → (wipe σ vs)[i]? = σ[i]?
  | [], _ => rfl
  | v :: vs, h => by
    unfold wipe
    rw [List.getElem?_set_ne (fun (e : v = i) => h (e ▸ List.mem_cons_self))]
    exact wipe_get fun z => h (List.mem_cons_of_mem _ z)
theorem wipe_in {σ : L2.St} {i : Nat} : ∀ {vs : List Nat}, i ∈ vs → (wipe σ vs)[i]? = if i < σ.length then some none else none
  | v :: vs, h => by
    unfold wipe
    by_cases e : v = i
    · subst e
      rw [List.getElem?_set]
      rw [if_pos rfl, wipe_length]
    · rw [List.getElem?_set_ne e]
      exact wipe_in ((List.mem_cons.mp h).resolve_left fun z => e z.symm)
theorem wipe_keeps {σ σ' : L2.St} {vs sl : List Nat} (hs : ∀ i ∈ sl, i ∈ vs) (k : Keeps sl (wipe σ vs) σ') : wipe σ' vs = wipe σ vs := by
  have hl : σ'.length = σ.length := k.1.trans (wipe_length σ vs)
  apply List.ext_getElem?
  intro i
  by_cases h : i ∈ vs
  · rw [wipe_in h, wipe_in h, hl]
  · rw [wipe_get h]
    exact k.2 i fun z => h (hs i z)
/-- a computation that raises nothing -/
theorem Fin.noX {α β γ δ : Type} {rel : List Addr → Hp → β → α → Prop} {rel2 : List Addr → Hp → δ → γ → Prop} {W W' : WX} {m : List Addr} {H : Hp} {σ σ' : L2.St} {Q : δ → Hp → Prop} {Q' : β → Hp → Prop} {r : Res α} {g : α → Sto → Res γ} (h : Fin R W rel2 m H σ Q (r.noX.bind g))
    (k : ∀ d st' m' H' v, Ext R m H m' H' → RelSt R m' H' st' → rel m' H' v d → Fin R W rel2 m' H' σ Q (g d st') → Q' v H') : Fin R W' rel m H σ' Q' r := by
  cases r with
  | ok d st => exact fun m' H' v e s x => k d st m' H' v e s x (Fin.mono e h)
  | exc c fs st => exact h.elim
  | bad => exact h.elim
theorem s_lcR {elt : E} {tg : Tg} {src : It} {co : Co} {own : List (Str × Nat)} {sl : List Nat} {x t i : Expr} {ifs : List Expr} {scope : Scope} {W : WX} {X : Cx} (G : Good U R N lv c X) (tk : Takes X W) (hsl : ∀ j ∈ sl, j ∈ own.map (·.2)) {te : TE} {g : TG} {tt : TT} {wi : TI}
    (ete : te = tE R (fun _ _ _ _ => False) (evE N elt)) (eg : g = tG R (fun _ _ _ _ => False) sl (evTg N tg)) (ett : tt = tT R (fun _ _ _ _ => False) (evCo N co)) (ewi : wi = tI R W (evIt N src)) (σ : L2.St) (H : Hp) (Q : VK)
    (h : tE R W (evE N (.lc elt tg src co own)) σ H Q) : tLc wi g tt te (own.map (·.2)) σ H Q := by
  subst ete eg ett ewi
  obtain ⟨m, env, st, hE, S, h⟩ := h
  rw [evE] at h
  refine ⟨m, env, st, hE, S, Fin.bind h fun s st1 m1 H1 J e1 S1 rj h => ?_⟩
  intro p n
  have hp : (m1 ++ [p])[st1.length]? = some p := by
    rw [← S1.len, List.getElem?_append_right (Nat.le_refl _), Nat.sub_self]
    rfl
  have S2 : RelSt R (m1 ++ [p]) (upd H1 p (.lst [])) (st1 ++ [.lst []]) := S1.alloc n ⟨[], upd_same, .nil⟩
  have e2 : Ext R m1 H1 (m1 ++ [p]) (upd H1 p (.lst [])) := Ext.alloc n
  have h := Fin.mono e2 h
  refine ⟨fun i k H' => ∃ m' st', Ext R (m1 ++ [p]) (upd H1 p (.lst [])) m' H' ∧ RelSt R m' H' st' ∧ Fin R W (Rel R) m' H' σ Q (lcGo s _ st1.length k i st'), ⟨s.n, m1 ++ [p], _, Ext.refl, S2, h⟩, fun i k H' hW => ?_⟩
  obtain ⟨m', st', e3, S3, h⟩ := hW
  have eA := e2.trans e3
  have J' := rj m' H' st' i eA S3
  have hE' : RelE R m' H' σ env := (hE.mono e1).mono eA
  have stop : s.get i st' = some none → (J.stop i H' ∧ Q (.ref p) H') := fun q => by
    rw [q] at J'
    refine ⟨J', ?_⟩
    have h : Fin R W (Rel R) m' H' σ Q (.ok (.ref st1.length) st') := by
      cases k with
      | zero =>
        simp only [lcGo, q] at h
        exact h
      | succ k =>
        simp only [lcGo, q] at h
        exact h
    exact h.ok S3 (.ref (e3.pre _ _ hp))
  cases q : s.get i st' with
  | none =>
    exfalso
    cases k with
    | zero =>
      simp only [lcGo, q] at h
      exact h
    | succ k =>
      simp only [lcGo, q] at h
      exact h
  | some o =>
    cases o with
    | none => exact .inl (stop q)
    | some d =>
      cases k with
      | zero =>
        simp only [lcGo, q] at h
        exact h.elim
      | succ k =>
        simp only [lcGo, q] at h
        rw [q] at J'
        obtain ⟨go, yld⟩ := J'
        refine .inr ⟨go, fun H4 => ∃ m' st', Ext R (m1 ++ [p]) (upd H1 p (.lst [])) m' H4 ∧ RelSt R m' H4 st' ∧ Fin R W (Rel R) m' H4 σ Q (lcGo s _ st1.length k (i + 1) st'), fun H4 z => ⟨k, Nat.lt_succ_self k, z⟩, fun x4 H4 y4 => ?_⟩
        obtain ⟨m4, e4, S4, r4⟩ := yld x4 H4 y4
        have h := Fin.mono e4 h
        have hE4 := wipeE_rel (hE'.mono e4) (own.map (·.2))
        refine ⟨m4, _, st', d, hE4, S4, r4, ?_⟩
        -- the target
        cases q5 : evTg N tg d (wipeE env (own.map (·.2))) st' with
        | bad =>
          simp only [q5, Res.bind, Res.noX] at h
          exact h.elim
        | exc cc fs s5 =>
          simp only [q5, Res.bind, Res.noX] at h
          exact h.elim
        | ok env5 st5 =>
          simp only [q5, Res.bind] at h
          intro m5 H5 σ5 e5 S5 E5 k5
          have h := Fin.mono e5 h
          refine ⟨wipe_keeps hsl k5, m5, env5, st5, E5, S5, ?_⟩
          -- the test
          cases q6 : evCo N co env5 st5 with
          | bad =>
            simp only [Res.bind, q6, Res.noX] at h
            exact h.elim
          | exc cc fs s5 =>
            simp only [Res.bind, q6, Res.noX] at h
            exact h.elim
          | ok b st6 =>
            intro m6 H6 b6 e6 S6 eb
            have eb : b6 = b := eb
            subst eb
            cases b6 with
            | false =>
              simp only [Res.bind, q6, Res.noX] at h
              exact ⟨m6, st6, ((e3.trans e4).trans e5).trans e6, S6, Fin.mono e6 h⟩
            | true =>
              refine iteT ⟨m6, env5, st6, E5.mono e6, S6, ?_⟩
              cases q7 : evE N elt env5 st6 with
              | bad =>
                simp only [Res.bind, q6, q7, Res.noX] at h
                exact h.elim
              | exc cc fs s5 =>
                simp only [Res.bind, q6, q7, Res.noX] at h
                exact h.elim
              | ok z st7 =>
                intro m7 H7 v7 e7 S7 r7
                simp only [Res.bind, q6, q7, Res.noX] at h
                have eB := (((e3.trans e4).trans e5).trans e6).trans e7
                have hp7 := eB.pre _ _ hp
                split at h
                · rename_i acc h1
                  split at h
                  · rename_i hl
                    obtain ⟨xs, hx, rl⟩ := S7.at_ _ _ _ h1 hp7
                    have mu := (S7.at_ _ _ _ h1 hp7).chg rfl
                    refine ⟨xs, hx, by rw [rl.length]; exact hl, m7, st7.set st1.length (.lst (acc ++ [z])), eB.trans (Ext.write mu), S7.write h1 hp7 rfl rfl ⟨_, upd_same, (rl.append (.cons r7 .nil)).mono (Ext.write mu)⟩, Fin.mono ((e6.trans e7).trans (Ext.write mu)) h⟩
                  · exact h.elim
                · exact h.elim
theorem s_lc {elt : E} {tg : Tg} {src : It} {co : Co} {own : List (Str × Nat)} {sl : List Nat} {x t i : Expr} {ifs : List Expr} {scope : Scope} {pos : Pos} (hb : blkC c.N c.sc scope own = true) (hsl : ∀ j ∈ sl, j ∈ own.map (·.2)) (hns : noSet i = true)
    (hi : SI U R N lv c (evIt N src) i) (hg : SG U R N lv (c.blk scope) sl (evTg N tg) t) (ht : STs U R N lv (c.blk scope) (evCo N co) ifs) (he : SE U R N lv (c.blk scope) (evE N elt) x) :
    SE U R N lv c (evE N (.lc elt tg src co own)) (.ListComp x [⟨t, i, ifs, 0⟩] scope pos) := by
  intro X W G tk
  have ok : BlkOk X.N X.env.scope scope own := by
    rw [G.nm, G.sc]
    exact blkOk_by hb
  exact PE.imp (pe_lc (own := own) G.calm (by rw [G.nm]; exact G.nd) (hi X W t G tk) ok (fun s H C cl fp => hg _ _ (G.blk s H scope C cl fp) takes0) (fun s H C cl fp => ht _ _ (G.blk s H scope C cl fp) takes0)
    (fun s H C cl fp => he _ _ (G.blk s H scope C cl fp) takes0) (fun x => noSet_fold hns x)) fun σ H Q h => s_lcR (x := x) (t := t) (i := i) (ifs := ifs) (scope := scope) G tk hsl rfl rfl rfl rfl σ H Q h
end
end FL
set_option Elab.async false
set_option linter.all false
set_option maxRecDepth 100000
set_option maxHeartbeats 1000000
/-! FL7: statements. -/
namespace FL
open PySem PySem.Spec PyProof.Rows L2

mutual
inductive S where
  | set (i : Nat) (e : E)
  | setL (i : Nat) (elt : E) (tg : Tg) (src : It) (co : Co) (own : List (Str × Nat))
  | asg (t : Tg) (e : E)
  | expr (e : E)
  | ret (e : E)
  | retN
  | pass
  | brk
  | cnt
  | ite (t : T) (a b : Ss)
  | for_ (tg : Tg) (src : It) (body : Ss)
  | while_ (t : T) (body : Ss)
inductive Ss where
  | nil
  | cons (s : S) (r : Ss)
end
/-- how a statement ends -/
inductive Fl where
  | nx | brk | cnt
  | ret (d : D)
inductive SR where
  | ok (f : Fl) (env : En) (st : Sto)
  | exc (c : Nat) (fs : List (Str × D)) (env : En) (st : Sto)
  | bad
def SR.seq (r : SR) (g : En → Sto → SR) : SR := match r with
  | .ok .nx env st => g env st
  | r => r
def Res.toS {α : Type} (r : Res α) (env : En) (g : α → Sto → SR) : SR := match r with
  | .ok a st => g a st
  | .exc c fs st => .exc c fs env st
  | .bad => .bad
/-- behind a turn of a loop -/
def SR.turn (r : SR) (g : En → Sto → SR) : SR := match r with
  | .ok .nx env st => g env st
  | .ok .cnt env st => g env st
  | .ok .brk env st => .ok .nx env st
  | r => r
def forGo (src : Src) (body : D → En → Sto → SR) : Nat → Nat → En → Sto → SR
  | 0, i, env, st => match src.get i st with
    | some none => .ok .nx env st
    | _ => .bad
  | n + 1, i, env, st => match src.get i st with
    | some none => .ok .nx env st
    | some (some x) => (body x env st).turn (forGo src body n (i + 1))
    | none => .bad
def whGo (test : En → Sto → Res Bool) (body : En → Sto → SR) : Nat → En → Sto → SR
  | 0, _, _ => .bad
  | n + 1, env, st => (test env st).toS env (br (fun st => (body env st).turn (whGo test body n)) (fun st => .ok .nx env st))
mutual
def evS (N : Rn) : S → En → Sto → SR
  | .set i e, env, st => (evE N e env st).toS env fun d st => .ok .nx (env.set i (some d)) st
  | .setL i elt tg src co own, env, st => (evE N (.lc elt tg src co own) env st).toS env fun d st => .ok .nx (env.set i (some d)) st
  | .asg t e, env, st => (evE N e env st).toS env fun d st => (evTg N t d env st).noX.toS env fun env st => .ok .nx env st
  | .expr e, env, st => (evE N e env st).toS env fun _ st => .ok .nx env st
  | .ret e, env, st => (evE N e env st).toS env fun d st => .ok (.ret d) env st
  | .retN, env, st => .ok (.ret .non) env st
  | .pass, env, st => .ok .nx env st
  | .brk, env, st => .ok .brk env st
  | .cnt, env, st => .ok .cnt env st
  | .ite t a b, env, st => (evT N t env st).toS env (br (evSs N a env) (evSs N b env))
  | .for_ tg src body, env, st => (evIt N src env st).toS env fun s st => forGo s (fun x env st => (evTg N tg x env st).noX.toS env (evSs N body)) s.n 0 env st
  | .while_ t body, env, st => whGo (evT N t) (evSs N body) N.W env st
def evSs (N : Rn) : Ss → En → Sto → SR
  | .nil, env, st => .ok .nx env st
  | .cons s r, env, st => (evS N s env st).seq (evSs N r)
end

def FinS (R : Rt) (W : WX) (m : List Addr) (H : Hp) (D : Ends) : SR → Prop
  | .ok .nx env st => ∀ m' H' σ', Ext R m H m' H' → RelSt R m' H' st → RelE R m' H' σ' env → D.nx σ' H'
  | .ok .brk env st => ∀ m' H' σ', Ext R m H m' H' → RelSt R m' H' st → RelE R m' H' σ' env → D.bk σ' H'
  | .ok .cnt env st => ∀ m' H' σ', Ext R m H m' H' → RelSt R m' H' st → RelE R m' H' σ' env → D.ct σ' H'
  | .ok (.ret d) _ st => ∀ m' H' v, Ext R m H m' H' → RelSt R m' H' st → Rel R m' H' v d → D.rt v H'
  | .exc c fs env st => ∀ m' H' σ' cls dx, Ext R m H m' H' → RelSt R m' H' st → RelE R m' H' σ' env → RelX R m' H' cls dx c fs → W cls dx σ' H'
  | .bad => False
def tS (R : Rt) (W : WX) (f : En → Sto → SR) : TS := fun D σ H => ∃ m env st, RelE R m H σ env ∧ RelSt R m H st ∧ FinS R W m H D (f env st)
structure GoodS (U : Nms) (R : Rt) (N : Rn) (lv : Nat) (c : Ctx) (X : Cx) : Prop extends Good U R N lv c X where
  pass : PassesOwn (model X.prog X.w) X.A X.env X.xe
section
variable (U : Nms) (R : Rt) (N : Rn) (lv : Nat) (c : Ctx)
def SSt (f : En → Sto → SR) (s : Stmt) : Prop := ∀ X W, GoodS U R N lv c X → Takes X W → PS X s (tS R W f)
def SSs (f : En → Sto → SR) (s : List Stmt) : Prop := ∀ X W, GoodS U R N lv c X → Takes X W → PSs X s (tS R W f)
end
section
variable {U : Nms} {R : Rt} {N : Rn} {lv : Nat} {c : Ctx}
theorem FinS.mono {W : WX} {m m' : List Addr} {H H' : Hp} {D : Ends} (e : Ext R m H m' H') {r : SR} (h : FinS R W m H D r) : FinS R W m' H' D r := by
  cases r with
  | ok f env st => cases f with
    | nx => exact fun m2 H2 s2 e2 => h m2 H2 s2 (e.trans e2)
    | brk => exact fun m2 H2 s2 e2 => h m2 H2 s2 (e.trans e2)
    | cnt => exact fun m2 H2 s2 e2 => h m2 H2 s2 (e.trans e2)
    | ret d => exact fun m2 H2 s2 e2 => h m2 H2 s2 (e.trans e2)
  | exc cc fs env st => exact fun m2 H2 s2 cls dx e2 => h m2 H2 s2 cls dx (e.trans e2)
  | bad => exact h
/-- an expression first -/
theorem FinS.bindE {α β : Type} {rel : List Addr → Hp → β → α → Prop} {W : WX} {m : List Addr} {H : Hp} {σ : L2.St} {env : En} {D : Ends} {Q1 : β → Hp → Prop} {r : Res α} {g : α → Sto → SR} (hE : RelE R m H σ env) (h : FinS R W m H D (r.toS env g))
    (k : ∀ d st' m' H' v, Ext R m H m' H' → RelSt R m' H' st' → rel m' H' v d → FinS R W m' H' D (g d st') → Q1 v H') : Fin R W rel m H σ Q1 r := by
  cases r with
  | ok d st => exact fun m' H' v e s x => k d st m' H' v e s x (FinS.mono e h)
  | exc cc fs st => exact fun m' H' cls dx e s x => h m' H' σ cls dx e s (hE.mono e) x
  | bad => exact h
/-- a target that raises nothing -/
theorem FinS.bindG {W : WX} {sl : List Nat} {m : List Addr} {H : Hp} {σ : L2.St} {env : En} {D : Ends} {Q1 : L2.St → Hp → Prop} {r : Res En} {g : En → Sto → SR} (h : FinS R W m H D (r.noX.toS env g))
    (k : ∀ env' st' m' H' σ', Ext R m H m' H' → RelSt R m' H' st' → RelE R m' H' σ' env' → FinS R W m' H' D (g env' st') → Q1 σ' H') : FinG R W sl m H σ Q1 r := by
  cases r with
  | ok e st => exact fun m' H' σ' e' s E _ => k e st m' H' σ' e' s E (FinS.mono e' h)
  | exc cc fs st => exact h.elim
  | bad => exact h
theorem FinS.nx {W : WX} {m : List Addr} {H : Hp} {σ : L2.St} {env : En} {st : Sto} {D : Ends} (h : FinS R W m H D (.ok .nx env st)) (S : RelSt R m H st) (E : RelE R m H σ env) : D.nx σ H := h m H σ Ext.refl S E
def notComp : Expr → Bool
  | .ListComp .. => false
  | .SetComp .. => false
  | .DictComp .. => false
  | _ => true
theorem notComp_ok {e : Expr} {t : Option Expr} {l : Nat} {env : Env} (h : notComp e = true) : swapsWith e t l env = pure false := by
  cases e <;> first | rfl | cases h
theorem t_set {i : Nat} {a : E} {x : Str} {y : Expr} {p pos : Pos} (hN : c.N[i]? = some x) (hx : c.sc.names.lookup x = some .local ∨ (c.sc.names.lookup x = some .cell ∧ c.fn x = true)) (hc : notComp y = true ∨ c.sc.names.lookup x = some .cell) (ha : SE U R N lv c (evE N a) y) :
    SSt U R N lv c (evS N (.set i a)) (.Assign [.Name x p] y pos) := by
  intro X W G tk
  have e1 : X.env.scope.names.lookup x = c.sc.names.lookup x := by rw [G.sc]
  have hl : Loc X.env.scope x := by
    rcases hx with h | h
    · exact .inl (e1.trans h)
    · exact .inr (e1.trans h.1)
  have hf : X.fn x = true ∨ X.env.scope.names.lookup x = some .local := by
    rcases hx with h | h
    · exact .inr (e1.trans h)
    · exact .inl (by rw [G.fn]; exact h.2)
  have hsw : swapsWith y (some (.Name x p)) pos.line X.env = pure false := by
    rcases hc with h | h
    · exact notComp_ok h
    · have hk : X.env.kindOf x = some .cell := e1.trans h
      unfold swapsWith
      split
      · simp only [hk]
        have e2 : (some NameKind.cell == some NameKind.local) = false := rfl
        rw [e2, Bool.and_false, Bool.false_and, Bool.false_and]
      · rfl
  refine PS.imp (ps_set (i := i) (by rw [G.nm]; exact G.nd) (by rw [G.nm]; exact hN) hl (ha X W G.toGood tk) hsw hf) fun D σ H h => ?_
  obtain ⟨m, env, st, hE, S, h⟩ := h
  rw [evS] at h
  refine ⟨m, env, st, hE, S, FinS.bindE hE h fun d1 st1 m1 H1 v1 e1 S1 r1 h => ?_⟩
  exact h.nx S1 ((hE.mono e1).set i r1)
theorem t_setL {i : Nat} {elt : E} {tg : Tg} {src : It} {co : Co} {own : List (Str × Nat)} {sl : List Nat} {y : Str} {x t z : Expr} {ifs : List Expr} {scope : Scope} {pos p spos : Pos} (hN : c.N[i]? = some y) (hy : c.sc.names.lookup y = some .local)
    (hk : c.sc.kind = .function) (hl : (p.line == pos.line) = true) (hn : (scope.names.any fun (n, k) => n == y && (k == .local || k == .cell)) = false)
    (hb : blkC c.N c.sc scope own = true) (hsl : ∀ j ∈ sl, j ∈ own.map (·.2)) (hns : noSet z = true)
    (hi : SI U R N lv c (evIt N src) z) (hg : SG U R N lv (c.blk scope) sl (evTg N tg) t) (ht : STs U R N lv (c.blk scope) (evCo N co) ifs) (he : SE U R N lv (c.blk scope) (evE N elt) x) :
    SSt U R N lv c (evS N (.setL i elt tg src co own)) (.Assign [.Name y p] (.ListComp x [⟨t, z, ifs, 0⟩] scope pos) spos) := by
  intro X W G tk
  have e1 : X.env.scope.names.lookup y = c.sc.names.lookup y := by rw [G.sc]
  have ok : BlkOk X.N X.env.scope scope own := by
    rw [G.nm, G.sc]
    exact blkOk_by hb
  refine PS.imp (ps_setLc (i := i) (own := own) G.calm (by rw [G.nm]; exact G.nd) (by rw [G.nm]; exact hN) (e1.trans hy) (sw_true (by rw [G.sc]; exact hk) (e1.trans hy) hl hn) (hi X W t G.toGood tk) ok (fun s H C cl fp => hg _ _ (G.toGood.blk s H scope C cl fp) takes0)
    (fun s H C cl fp => ht _ _ (G.toGood.blk s H scope C cl fp) takes0) (fun s H C cl fp => he _ _ (G.toGood.blk s H scope C cl fp) takes0) (fun x => noSet_fold hns x)) fun D σ H h => ?_
  obtain ⟨m, env, st, hE, S, h⟩ := h
  rw [evS] at h
  refine s_lcR (x := x) (t := t) (i := z) (ifs := ifs) (scope := scope) G.toGood tk hsl rfl rfl rfl rfl σ H _ ⟨m, env, st, hE, S, FinS.bindE hE h fun d1 st1 m1 H1 v1 e1 S1 r1 h => ?_⟩
  exact h.nx S1 ((hE.mono e1).set i r1)
def noPair (tg e : Expr) : Bool := match tg, e with
  | .Tuple .., .Tuple .. => false
  | .List .., .Tuple .. => false
  | _, _ => true
theorem swapStores_ok {tg e : Expr} {env : Env} (h : noPair tg e = true) : swappedStores [tg] e env = pure none := by
  unfold swappedStores
  cases tg <;> first | rfl | (cases e <;> first | rfl | cases h)
theorem t_asg {t : Tg} {a : E} {sl : List Nat} {x y : Expr} {pos : Pos} (hc : notComp y = true) (hn : noStar x = true) (hw : noPair x y = true)
    (ha : SE U R N lv c (evE N a) y) (ht : SG U R N lv c sl (evTg N t) x) : SSt U R N lv c (evS N (.asg t a)) (.Assign [x] y pos) := by
  intro X W G tk
  have h1 : ([x] : List Expr).all noStar = true := by rw [List.all_cons, hn]; rfl
  refine PS.imp (ps_asg (ha X W G.toGood tk) (ht X W G.toGood tk) (show swapsWith y (some x) pos.line X.env = pure false from notComp_ok hc) (swapStores_ok hw) (by rw [assignEach_ok h1]; rfl)) fun D σ H h => ?_
  obtain ⟨m, env, st, hE, S, h⟩ := h
  rw [evS] at h
  refine ⟨m, env, st, hE, S, FinS.bindE hE h fun d1 st1 m1 H1 v1 e1 S1 r1 h => ⟨m1, env, st1, d1, hE.mono e1, S1, r1, FinS.bindG h fun env' st' m' H' σ' e' S' E' h => ?_⟩⟩
  exact h.nx S' E'
theorem t_expr {a : E} {y : Expr} {pos : Pos} (hc : notComp y = true) (ha : SE U R N lv c (evE N a) y) : SSt U R N lv c (evS N (.expr a)) (.Expr y pos) := by
  intro X W G tk
  refine PS.imp (ps_expr (ha X W G.toGood tk) (notComp_ok hc)) fun D σ H h => ?_
  obtain ⟨m, env, st, hE, S, h⟩ := h
  rw [evS] at h
  refine ⟨m, env, st, hE, S, FinS.bindE hE h fun d1 st1 m1 H1 v1 e1 S1 r1 h => ?_⟩
  exact h.nx S1 (hE.mono e1)
theorem t_ret {a : E} {y : Expr} {pos : Pos} (ha : SE U R N lv c (evE N a) y) : SSt U R N lv c (evS N (.ret a)) (.Return (some y) pos) := by
  intro X W G tk
  refine PS.imp (ps_ret (ha X W G.toGood tk)) fun D σ H h => ?_
  obtain ⟨m, env, st, hE, S, h⟩ := h
  rw [evS] at h
  refine ⟨m, env, st, hE, S, FinS.bindE hE h fun d1 st1 m1 H1 v1 e1 S1 r1 h => ?_⟩
  exact h m1 H1 v1 Ext.refl S1 r1
theorem t_retN {pos : Pos} : SSt U R N lv c (evS N .retN) (.Return none pos) := by
  intro X W G tk
  refine PS.imp ps_retN fun D σ H h => ?_
  obtain ⟨m, env, st, hE, S, h⟩ := h
  rw [evS] at h
  exact h m H .non Ext.refl S .non
theorem t_pass {pos : Pos} : SSt U R N lv c (evS N .pass) (.Pass pos) := by
  intro X W G tk
  refine PS.imp ps_pass fun D σ H h => ?_
  obtain ⟨m, env, st, hE, S, h⟩ := h
  rw [evS] at h
  exact h.nx S hE
theorem t_brk {pos : Pos} : SSt U R N lv c (evS N .brk) (.Break pos) := by
  intro X W G tk
  refine PS.imp ps_break fun D σ H h => ?_
  obtain ⟨m, env, st, hE, S, h⟩ := h
  rw [evS] at h
  exact h m H σ Ext.refl S hE
theorem t_cnt {pos : Pos} : SSt U R N lv c (evS N .cnt) (.Continue pos) := by
  intro X W G tk
  refine PS.imp ps_continue fun D σ H h => ?_
  obtain ⟨m, env, st, hE, S, h⟩ := h
  rw [evS] at h
  exact h m H σ Ext.refl S hE
theorem t_nil : SSs U R N lv c (evSs N .nil) [] := by
  intro X W G tk
  refine PSs.imp pss_nil fun D σ H h => ?_
  obtain ⟨m, env, st, hE, S, h⟩ := h
  rw [evSs] at h
  exact h.nx S hE
theorem t_cons {s : S} {r : Ss} {x : Stmt} {xs : List Stmt} (h1 : SSt U R N lv c (evS N s) x) (h2 : SSs U R N lv c (evSs N r) xs) : SSs U R N lv c (evSs N (.cons s r)) (x :: xs) := by
  intro X W G tk
  refine PSs.imp (pss_cons (h1 X W G tk) (h2 X W G tk)) fun D σ H h => ?_
  obtain ⟨m, env, st, hE, S, h⟩ := h
  rw [evSs] at h
  refine ⟨m, env, st, hE, S, ?_⟩
  cases q : evS N s env st with
  | bad => rw [q] at h; exact h
  | exc cc fs e2 s2 => rw [q] at h; exact h
  | ok f e2 s2 =>
    rw [q] at h
    cases f with
    | nx => exact fun m' H' σ' e S' E' => ⟨m', e2, s2, E', S', FinS.mono e h⟩
    | brk => exact h
    | cnt => exact h
    | ret d => exact h
theorem t_if {t : T} {a b : Ss} {z : Expr} {x y : List Stmt} {pos : Pos} (ht : ST U R N lv c (evT N t) z) (ha : SSs U R N lv c (evSs N a) x) (hb : SSs U R N lv c (evSs N b) y) : SSt U R N lv c (evS N (.ite t a b)) (.If z x y pos) := by
  intro X W G tk
  refine PS.imp (ps_if (ht X W G.toGood tk) (ha X W G tk) (hb X W G tk)) fun D σ H h => ?_
  obtain ⟨m, env, st, hE, S, h⟩ := h
  rw [evS] at h
  refine ⟨m, env, st, hE, S, FinS.bindE hE h fun d1 st1 m1 H1 v1 e1 S1 r1 h => ?_⟩
  have r1' : v1 = d1 := r1
  rw [r1']
  cases d1 with
  | true => exact iteT ⟨m1, env, st1, hE.mono e1, S1, h⟩
  | false => exact iteF ⟨m1, env, st1, hE.mono e1, S1, h⟩
/-- a turn's end -/
theorem FinS.turn {W : WX} {m m0 : List Addr} {H H0 : Hp} {D : Ends} {Nx : L2.St → Hp → Prop} {r : SR} {g : En → Sto → SR} (h : FinS R W m H D (r.turn g)) (e0 : Ext R m0 H0 m H)
    (hN : ∀ env st m' H' σ', Ext R m0 H0 m' H' → RelSt R m' H' st → RelE R m' H' σ' env → FinS R W m' H' D (g env st) → Nx σ' H') : FinS R W m H { D with nx := Nx, ct := Nx, bk := D.nx } r := by
  cases r with
  | bad => exact h
  | exc cc fs e2 s2 => exact h
  | ok f e2 s2 =>
    cases f with
    | nx => exact fun m' H' σ' e S' E' => hN e2 s2 m' H' σ' (e0.trans e) S' E' (FinS.mono e h)
    | brk => exact h
    | cnt => exact fun m' H' σ' e S' E' => hN e2 s2 m' H' σ' (e0.trans e) S' E' (FinS.mono e h)
    | ret d => exact h
theorem t_for {tg : Tg} {src : It} {body : Ss} {sl : List Nat} {t i : Expr} {xs : List Stmt} {pos : Pos} (hns : noSet i = true) (hi : SI U R N lv c (evIt N src) i) (hg : SG U R N lv c sl (evTg N tg) t) (hb : SSs U R N lv c (evSs N body) xs) :
    SSt U R N lv c (evS N (.for_ tg src body)) (.For t i xs [] pos) := by
  intro X W G tk
  refine PS.imp (ps_for G.pass G.calm (hi X W t G.toGood tk) (hg X W G.toGood tk) (hb X W G tk) (fun x => noSet_fold hns x)) fun D σ H h => ?_
  obtain ⟨m, env, st, hE, S, h⟩ := h
  rw [evS] at h
  refine ⟨m, env, st, hE, S, FinS.bindE hE h fun s st1 m1 H1 J e1 S1 rj h => ?_⟩
  refine ⟨fun i k σ' H' => ∃ m' env' st', Ext R m1 H1 m' H' ∧ RelSt R m' H' st' ∧ RelE R m' H' σ' env' ∧ FinS R W m' H' D (forGo s (fun x env st => (evTg N tg x env st).noX.toS env (evSs N body)) k i env' st'), ⟨s.n, m1, env, st1, Ext.refl, S1, hE.mono e1, h⟩, fun i k σ' H' hW => ?_⟩
  obtain ⟨m', env', st', e3, S3, E3, h⟩ := hW
  have J' := rj m' H' st' i e3 S3
  cases q : s.get i st' with
  | none =>
    exfalso
    cases k with
    | zero => simp only [forGo, q] at h; exact h
    | succ k => simp only [forGo, q] at h; exact h
  | some o =>
    cases o with
    | none =>
      rw [q] at J'
      refine .inl ⟨J', ?_⟩
      cases k with
      | zero => simp only [forGo, q] at h; exact h.nx S3 E3
      | succ k => simp only [forGo, q] at h; exact h.nx S3 E3
    | some d =>
      cases k with
      | zero => simp only [forGo, q] at h; exact h.elim
      | succ k =>
        simp only [forGo, q] at h
        rw [q] at J'
        obtain ⟨go, yld⟩ := J'
        refine .inr ⟨go, fun σ4 H4 => ∃ m' env' st', Ext R m1 H1 m' H4 ∧ RelSt R m' H4 st' ∧ RelE R m' H4 σ4 env' ∧ FinS R W m' H4 D (forGo s (fun x env st => (evTg N tg x env st).noX.toS env (evSs N body)) k (i + 1) env' st'), fun σ4 H4 z => ⟨k, Nat.lt_succ_self k, z⟩, fun x4 H4 y4 => ?_⟩
        obtain ⟨m4, e4, S4, r4⟩ := yld x4 H4 y4
        have h := FinS.mono e4 h
        refine ⟨m4, env', st', d, E3.mono e4, S4, r4, ?_⟩
        cases q5 : evTg N tg d env' st' with
        | bad => simp only [q5, Res.noX, Res.toS] at h; exact h
        | exc cc fs s5 => simp only [q5, Res.noX, Res.toS] at h; exact h.elim
        | ok env5 st5 =>
          simp only [q5, Res.noX, Res.toS] at h
          intro m5 H5 σ5 e5 S5 E5 _
          have h := FinS.mono e5 h
          refine ⟨m5, env5, st5, E5, S5, FinS.turn h ((e3.trans e4).trans e5) fun env6 st6 m6 H6 σ6 e6 S6 E6 h => ⟨m6, env6, st6, e6, S6, E6, h⟩⟩
theorem t_while {t : T} {body : Ss} {z : Expr} {xs : List Stmt} {pos : Pos} (ht : ST U R N lv c (evT N t) z) (hb : SSs U R N lv c (evSs N body) xs) : SSt U R N lv c (evS N (.while_ t body)) (.While z xs [] pos) := by
  intro X W G tk
  refine PS.imp (ps_while G.pass (ht X W G.toGood tk) (hb X W G tk)) fun D σ H h => ?_
  obtain ⟨m, env, st, hE, S, h⟩ := h
  rw [evS] at h
  refine ⟨fun k σ' H' => ∃ m' env' st', Ext R m H m' H' ∧ RelSt R m' H' st' ∧ RelE R m' H' σ' env' ∧ FinS R W m' H' D (whGo (evT N t) (evSs N body) k env' st'), ⟨N.W, m, env, st, Ext.refl, S, hE, h⟩, fun k σ' H' hW => ?_⟩
  obtain ⟨m', env', st', e3, S3, E3, h⟩ := hW
  cases k with
  | zero => exact h.elim
  | succ k =>
    rw [whGo] at h
    refine ⟨m', env', st', E3, S3, FinS.bindE E3 h fun d1 st1 m1 H1 v1 e1 S1 r1 h => ?_⟩
    have r1' : v1 = d1 := r1
    rw [r1']
    cases d1 with
    | true =>
      refine iteT ⟨fun σ4 H4 => ∃ m' env' st', Ext R m H m' H4 ∧ RelSt R m' H4 st' ∧ RelE R m' H4 σ4 env' ∧ FinS R W m' H4 D (whGo (evT N t) (evSs N body) k env' st'), fun σ4 H4 z => ⟨k, Nat.lt_succ_self k, z⟩, m1, env', st1, E3.mono e1, S1, ?_⟩
      exact FinS.turn h (e3.trans e1) fun env6 st6 m6 H6 σ6 e6 S6 E6 h => ⟨m6, env6, st6, e6, S6, E6, h⟩
    | false => exact iteF (h.nx S1 (E3.mono e1))
end
end FL
set_option Elab.async false
set_option linter.all false
set_option maxRecDepth 100000
set_option maxHeartbeats 1000000
/-! FL8: the code is held against the text; what holds of all of it. -/
namespace FL
open PySem PySem.Spec PyProof.Rows L2

def visB (sc : Scope) (x : Str) : Bool := match sc.names.lookup x with
  | some .local => true
  | some .cell => true
  | some .free => true
  | _ => false
def gloB (sc : Scope) (x : Str) : Bool := match sc.names.lookup x with
  | some .globalImplicit => true
  | _ => false
def okName (x : Str) : Bool := !(x == ("__debug__" : Str)) && !(x == ("__classdict__" : Str))
def locB (c : Ctx) (x : Str) : Bool := match c.sc.names.lookup x with
  | some .local => true
  | some .cell => c.fn x
  | _ => false
def isLocal (sc : Scope) (x : Str) : Bool := match sc.names.lookup x with
  | some .local => true
  | _ => false
def isCell (sc : Scope) (x : Str) : Bool := match sc.names.lookup x with
  | some .cell => true
  | _ => false
def isFun (sc : Scope) : Bool := match sc.kind with
  | .function => true
  | _ => false
theorem visB_ok {sc : Scope} {x : Str} (h : visB sc x = true) : Vis sc x := by
  unfold visB at h
  split at h
  · exact .inl (by assumption)
  · exact .inr (.inl (by assumption))
  · exact .inr (.inr (by assumption))
  · cases h
theorem gloB_ok {sc : Scope} {x : Str} (h : gloB sc x = true) : sc.names.lookup x = some .globalImplicit := by
  unfold gloB at h
  split at h
  · assumption
  · cases h
theorem okName_ok {x : Str} (h : okName x = true) : (x == ("__debug__" : Str)) = false ∧ (x == ("__classdict__" : Str)) = false := by
  unfold okName at h
  rw [Bool.and_eq_true, Bool.not_eq_true', Bool.not_eq_true'] at h
  exact h
theorem locB_ok {c : Ctx} {x : Str} (h : locB c x = true) : c.sc.names.lookup x = some .local ∨ (c.sc.names.lookup x = some .cell ∧ c.fn x = true) := by
  unfold locB at h
  split at h
  · exact .inl (by assumption)
  · exact .inr ⟨by assumption, h⟩
  · cases h
theorem isLocal_ok {sc : Scope} {x : Str} (h : isLocal sc x = true) : sc.names.lookup x = some .local := by
  unfold isLocal at h
  split at h
  · assumption
  · cases h
theorem isCell_ok {sc : Scope} {x : Str} (h : isCell sc x = true) : sc.names.lookup x = some .cell := by
  unfold isCell at h
  split at h
  · assumption
  · cases h
theorem isFun_ok {sc : Scope} (h : isFun sc = true) : sc.kind = .function := by
  unfold isFun at h
  split at h
  · assumption
  · cases h

mutual
def Tg.slots : Tg → List Nat
  | .name i => [i]
  | .tup ts => ts.slots
  | .sub _ _ => []
def Tgs.slots : Tgs → List Nat
  | .nil => []
  | .cons t ts => t.slots ++ ts.slots
end

mutual
def kE (U : Nms) : E → Ctx → Expr → Bool
  | .var i, c, e => match e with
    | .Name x _ => decide (c.N[i]? = some x) && visB c.sc x && okName x
    | _ => false
  | .int i, _, e => match e with
    | .Constant (.int j) _ _ => decide (i = j)
    | _ => false
  | .bl b, _, e => match e with
    | .Constant (.bool k) _ _ => b == k
    | _ => false
  | .non, _, e => match e with
    | .Constant .none _ _ => true
    | _ => false
  | .str x, _, e => match e with
    | .Constant (.str y) _ _ => decide (x = y)
    | _ => false
  | .bin o a b, c, e => match e with
    | .BinOp x p y _ => o.is p && kE U a c x && kE U b c y
    | _ => false
  | .neg a, c, e => match e with
    | .UnaryOp .USub x _ => kE U a c x
    | _ => false
  | .cmp o a b, c, e => match e with
    | .Compare x [p] [y] _ => o.is p && noSet y && kE U a c x && kE U b c y
    | _ => false
  | .and2 a b, c, e => match e with
    | .BoolOp .And (x :: y :: ys) p => kE U a c x && kE U b c (.BoolOp .And (y :: ys) p)
    | _ => false
  | .or2 a b, c, e => match e with
    | .BoolOp .Or (x :: y :: ys) p => kE U a c x && kE U b c (.BoolOp .Or (y :: ys) p)
    | _ => false
  | .one a, c, e => match e with
    | .BoolOp _ [x] _ => kE U a c x
    | _ => false
  | .notv a, c, e => match e with
    | .UnaryOp .Not x _ => kE U a c x
    | _ => false
  | .ite t a b, c, e => match e with
    | .IfExp z x y _ => kT U t c z && kE U a c x && kE U b c y
    | _ => false
  | .call k as, c, e => match e with
    | .Call (.Name x _) (y :: ys) [] _ => (match U.fns[k]? with | some (z, _) => decide (x = z) | none => false) && gloB c.sc x && okName x && (y :: ys).all noStar && kEs U as c (y :: ys)
    | _ => false
  | .blt b as, c, e => match e with
    | .Call (.Name x _) (y :: ys) [] _ => decide (x = b.name) && decide (b.name ∈ U.free) && gloB c.sc b.name && (y :: ys).all noStar && kEs U as c (y :: ys)
    | _ => false
  | .isi a ty, c, e => match e with
    | .Call (.Name f _) [x, .Name z _] [] _ => decide (f = ("isinstance" : Str)) && decide (z = ty) && (tyName ty).isSome && decide (("isinstance" : Str) ∈ U.free) && decide (ty ∈ U.free) && gloB c.sc ("isinstance" : Str) && gloB c.sc ty && noStar x && kE U a c x
    | _ => false
  | .meth m o as, c, e => match e with
    | .Call (.Attribute x f apos) ys [] cpos => decide (f = m.name) && noSuper x && (apos.endLine == cpos.line) && decide (ys.length < 30) && ys.all noStar && kE U o c x && kEs U as c ys
    | _ => false
  | .tup es, c, e => match e with
    | .Tuple xs _ _ => kEs U es c xs
    | _ => false
  | .lst es, c, e => match e with
    | .List xs _ => kEs U es c xs
    | _ => false
  | .dnew, _, e => match e with
    | .Dict [] [] _ => true
    | _ => false
  | .dic1 a b, c, e => match e with
    | .Dict [some x] [y] _ => kE U a c x && kE U b c y
    | _ => false
  | .ix a i, c, e => match e with
    | .Subscript x y _ => plainIx y && kE U a c x && kE U i c y
    | _ => false
  | .sl a lo hi, c, e => match e with
    | .Subscript x (.Slice l u none _) _ => kE U a c x && kEo U lo c l && kEo U hi c u
    | _ => false
  | .lc elt tg src co own, c, e => match e with
    | .ListComp x [⟨t, i, ifs, 0⟩] scope _ => blkC c.N c.sc scope own && tg.slots.all (fun j => decide (j ∈ own.map (·.2))) && noSet i && kI U src c i && kG U tg (c.blk scope) t && kC U co (c.blk scope) ifs && kE U elt (c.blk scope) x
    | _ => false
def kEs (U : Nms) : Es → Ctx → List Expr → Bool
  | .nil, _, es => match es with
    | [] => true
    | _ => false
  | .cons a as, c, es => match es with
    | x :: xs => noStar x && kE U a c x && kEs U as c xs
    | _ => false
def kEo (U : Nms) : Eo → Ctx → Option Expr → Bool
  | .no, _, e => match e with
    | none => true
    | _ => false
  | .yes a, c, e => match e with
    | some x => kE U a c x
    | _ => false
def kT (U : Nms) : T → Ctx → Expr → Bool
  | .val a, c, e => plainT e && kE U a c e
  | .cmp o a b, c, e => match e with
    | .Compare x [p] [y] _ => o.is p && noSet y && kE U a c x && kE U b c y
    | _ => false
  | .not a, c, e => match e with
    | .UnaryOp .Not x _ => kT U a c x
    | _ => false
  | .and r, c, e => match e with
    | .BoolOp .And xs p => kAnd U r c p xs
    | _ => false
  | .or r, c, e => match e with
    | .BoolOp .Or xs p => kAnd U r c p xs
    | _ => false
def kAnd (U : Nms) : Ch → Ctx → Pos → List Expr → Bool
  | .one a, c, _, es => match es with
    | [x] => kT U a c x
    | _ => false
  | .cons a r, c, p, es => match es with
    | x :: y :: ys => kT U a c x && kAnd U r c p (y :: ys)
    | _ => false
def kI (U : Nms) : It → Ctx → Expr → Bool
  | .seq a, c, e => kE U a c e
  | .rng1 a, c, e => match e with
    | .Call (.Name f _) [x] [] _ => decide (f = ("range" : Str)) && decide (("range" : Str) ∈ U.free) && gloB c.sc ("range" : Str) && noStar x && kE U a c x
    | _ => false
  | .rng2 a b, c, e => match e with
    | .Call (.Name f _) [x, y] [] _ => decide (f = ("range" : Str)) && decide (("range" : Str) ∈ U.free) && gloB c.sc ("range" : Str) && noStar x && noStar y && kE U a c x && kE U b c y
    | _ => false
def kG (U : Nms) : Tg → Ctx → Expr → Bool
  | .name i, c, e => match e with
    | .Name x _ => decide (c.N[i]? = some x) && locB c x
    | _ => false
  | .tup ts, c, e => match e with
    | .Tuple xs _ _ => xs.all noStar && decide (xs.length = ts.len) && kGs U ts c xs
    | _ => false
  | .sub a b, c, e => match e with
    | .Subscript x y _ => plainIx y && kE U a c x && kE U b c y
    | _ => false
def kGs (U : Nms) : Tgs → Ctx → List Expr → Bool
  | .nil, _, es => match es with
    | [] => true
    | _ => false
  | .cons t ts, c, es => match es with
    | x :: xs => noStar x && kG U t c x && kGs U ts c xs
    | _ => false
def kC (U : Nms) : Co → Ctx → List Expr → Bool
  | .no, _, es => match es with
    | [] => true
    | _ => false
  | .yes t, c, es => match es with
    | [x] => kT U t c x
    | _ => false
end
mutual
def kS (U : Nms) : S → Ctx → Stmt → Bool
  | .set i a, c, s => match s with
    | .Assign [.Name x _] y _ => decide (c.N[i]? = some x) && locB c x && (notComp y || isCell c.sc x) && kE U a c y
    | _ => false
  | .setL i elt tg src co own, c, s => match s with
    | .Assign [.Name y p] (.ListComp x [⟨t, z, ifs, 0⟩] scope pos) _ => decide (c.N[i]? = some y) && isLocal c.sc y && isFun c.sc && (p.line == pos.line) && !(scope.names.any fun (n, k) => n == y && (k == .local || k == .cell)) &&
        blkC c.N c.sc scope own && tg.slots.all (fun j => decide (j ∈ own.map (·.2))) && noSet z && kI U src c z && kG U tg (c.blk scope) t && kC U co (c.blk scope) ifs && kE U elt (c.blk scope) x
    | _ => false
  | .asg t a, c, s => match s with
    | .Assign [x] y _ => notComp y && noStar x && noPair x y && kE U a c y && kG U t c x
    | _ => false
  | .expr a, c, s => match s with
    | .Expr y _ => notComp y && kE U a c y
    | _ => false
  | .ret a, c, s => match s with
    | .Return (some y) _ => kE U a c y
    | _ => false
  | .retN, _, s => match s with
    | .Return none _ => true
    | _ => false
  | .pass, _, s => match s with
    | .Pass _ => true
    | _ => false
  | .brk, _, s => match s with
    | .Break _ => true
    | _ => false
  | .cnt, _, s => match s with
    | .Continue _ => true
    | _ => false
  | .ite t a b, c, s => match s with
    | .If z x y _ => kT U t c z && kSs U a c x && kSs U b c y
    | _ => false
  | .for_ tg src body, c, s => match s with
    | .For t i xs [] _ => noSet i && kI U src c i && kG U tg c t && kSs U body c xs
    | _ => false
  | .while_ t body, c, s => match s with
    | .While z xs [] _ => kT U t c z && kSs U body c xs
    | _ => false
def kSs (U : Nms) : Ss → Ctx → List Stmt → Bool
  | .nil, _, ss => match ss with
    | [] => true
    | _ => false
  | .cons s r, c, ss => match ss with
    | x :: xs => kS U s c x && kSs U r c xs
    | _ => false
end

section
variable {U : Nms} {R : Rt} {N : Rn} {lv : Nat}
theorem and_l {a b : Bool} (h : (a && b) = true) : a = true := (Bool.and_eq_true_iff.mp h).1
theorem and_r {a b : Bool} (h : (a && b) = true) : b = true := (Bool.and_eq_true_iff.mp h).2
theorem slots_all {sl vs : List Nat} (h : sl.all (fun j => decide (j ∈ vs)) = true) : ∀ j ∈ sl, j ∈ vs := fun j hj => of_decide_eq_true (List.all_eq_true.mp h j hj)
set_option maxHeartbeats 4000000 in
mutual
theorem soundE : ∀ (ir : E) (c : Ctx) (e : Expr), kE U ir c e = true → SE U R N lv c (evE N ir) e
  | .var i, c, e, h => by
    rw [kE.eq_def] at h
    dsimp only at h
    split at h
    · have h1 := okName_ok (and_r h)
      exact s_var (of_decide_eq_true (and_l (and_l h))) (visB_ok (and_r (and_l h))) h1.1 h1.2
    · cases h
  | .int i, c, e, h => by
    rw [kE.eq_def] at h
    dsimp only at h
    split at h
    · rw [of_decide_eq_true h]; exact s_int
    · cases h
  | .bl b, c, e, h => by
    rw [kE.eq_def] at h
    dsimp only at h
    split at h
    · rw [beq_iff_eq.mp h]; exact s_bl
    · cases h
  | .non, c, e, h => by
    rw [kE.eq_def] at h
    dsimp only at h
    split at h
    · exact s_non
    · cases h
  | .str x, c, e, h => by
    rw [kE.eq_def] at h
    dsimp only at h
    split at h
    · rw [of_decide_eq_true h]; exact s_str
    · cases h
  | .bin o a b, c, e, h => by
    rw [kE.eq_def] at h
    dsimp only at h
    split at h
    · exact s_bin (and_l (and_l h)) (soundE a c _ (and_r (and_l h))) (soundE b c _ (and_r h))
    · cases h
  | .neg a, c, e, h => by
    rw [kE.eq_def] at h
    dsimp only at h
    split at h
    · exact s_neg (soundE a c _ h)
    · cases h
  | .cmp o a b, c, e, h => by
    rw [kE.eq_def] at h
    dsimp only at h
    split at h
    · exact s_cmp (and_l (and_l (and_l h))) (and_r (and_l (and_l h))) (soundE a c _ (and_r (and_l h))) (soundE b c _ (and_r h))
    · cases h
  | .and2 a b, c, e, h => by
    rw [kE.eq_def] at h
    dsimp only at h
    split at h
    · exact s_and2 (soundE a c _ (and_l h)) (soundE b c _ (and_r h))
    · cases h
  | .or2 a b, c, e, h => by
    rw [kE.eq_def] at h
    dsimp only at h
    split at h
    · exact s_or2 (soundE a c _ (and_l h)) (soundE b c _ (and_r h))
    · cases h
  | .one a, c, e, h => by
    rw [kE.eq_def] at h
    dsimp only at h
    split at h
    · exact s_one (soundE a c _ h)
    · cases h
  | .notv a, c, e, h => by
    rw [kE.eq_def] at h
    dsimp only at h
    split at h
    · exact s_notv (soundE a c _ h)
    · cases h
  | .ite t a b, c, e, h => by
    rw [kE.eq_def] at h
    dsimp only at h
    split at h
    · exact s_ite (soundT t c _ (and_l (and_l h))) (soundE a c _ (and_r (and_l h))) (soundE b c _ (and_r h))
    · cases h
  | .call k as, c, e, h => by
    rw [kE.eq_def] at h
    dsimp only at h
    split at h
    · have h0 := and_l (and_l (and_l (and_l h)))
      split at h0
      · rename_i z np hz
        have e1 := of_decide_eq_true h0
        subst e1
        exact s_call hz (gloB_ok (and_r (and_l (and_l (and_l h))))) (okName_ok (and_r (and_l (and_l h)))).1 (and_r (and_l h)) (soundEs as c _ (and_r h))
      · cases h0
    · cases h
  | .blt b as, c, e, h => by
    rw [kE.eq_def] at h
    dsimp only at h
    split at h
    · have e1 := of_decide_eq_true (and_l (and_l (and_l (and_l h))))
      subst e1
      exact s_blt (of_decide_eq_true (and_r (and_l (and_l (and_l h))))) (gloB_ok (and_r (and_l (and_l h)))) (and_r (and_l h)) (soundEs as c _ (and_r h))
    · cases h
  | .isi a ty, c, e, h => by
    rw [kE.eq_def] at h
    dsimp only at h
    split at h
    · have h8 := and_r h
      have h7 := and_r (and_l h)
      have h6 := and_r (and_l (and_l h))
      have h5 := and_r (and_l (and_l (and_l h)))
      have h4 := and_r (and_l (and_l (and_l (and_l h))))
      have h3 := and_r (and_l (and_l (and_l (and_l (and_l h)))))
      have h2 := and_r (and_l (and_l (and_l (and_l (and_l (and_l h))))))
      have h1 := and_r (and_l (and_l (and_l (and_l (and_l (and_l (and_l h)))))))
      have h0 := and_l (and_l (and_l (and_l (and_l (and_l (and_l (and_l h)))))))
      have e0 := of_decide_eq_true h0
      have e1 := of_decide_eq_true h1
      subst e0 e1
      obtain ⟨t, ht⟩ := Option.isSome_iff_exists.mp h2
      exact s_isi ht (of_decide_eq_true h3) (of_decide_eq_true h4) (gloB_ok h5) (gloB_ok h6) h7 (soundE a c _ h8)
    · cases h
  | .meth m o as, c, e, h => by
    rw [kE.eq_def] at h
    dsimp only at h
    split at h
    · rename_i x f apos ys cpos
      have h6 := and_r h
      have h5 := and_r (and_l h)
      have h4 := and_r (and_l (and_l h))
      have h3 := and_r (and_l (and_l (and_l h)))
      have h2 := and_r (and_l (and_l (and_l (and_l h))))
      have h1 := and_r (and_l (and_l (and_l (and_l (and_l h)))))
      have h0 := and_l (and_l (and_l (and_l (and_l (and_l h)))))
      have e0 := of_decide_eq_true h0
      subst e0
      cases ys with
      | nil =>
        cases as with
        | nil => exact s_meth0 h1 h2 (soundE o c _ h5)
        | cons a as =>
          rw [kEs.eq_def] at h6
          cases h6
      | cons y ys => exact s_meth h1 h2 (of_decide_eq_true h3) h4 (soundE o c _ h5) (soundEs as c _ h6)
    · cases h
  | .tup es, c, e, h => by
    rw [kE.eq_def] at h
    dsimp only at h
    split at h
    · exact s_tup (soundEs es c _ h)
    · cases h
  | .lst es, c, e, h => by
    rw [kE.eq_def] at h
    dsimp only at h
    split at h
    · exact s_lst (soundEs es c _ h)
    · cases h
  | .dnew, c, e, h => by
    rw [kE.eq_def] at h
    dsimp only at h
    split at h
    · exact s_dnew
    · cases h
  | .dic1 a b, c, e, h => by
    rw [kE.eq_def] at h
    dsimp only at h
    split at h
    · exact s_dic1 (soundE a c _ (and_l h)) (soundE b c _ (and_r h))
    · cases h
  | .ix a i, c, e, h => by
    rw [kE.eq_def] at h
    dsimp only at h
    split at h
    · exact s_ix (and_l (and_l h)) (soundE a c _ (and_r (and_l h))) (soundE i c _ (and_r h))
    · cases h
  | .sl a lo hi, c, e, h => by
    rw [kE.eq_def] at h
    dsimp only at h
    split at h
    · exact s_sl (soundE a c _ (and_l (and_l h))) (soundEo lo c _ (and_r (and_l h))) (soundEo hi c _ (and_r h))
    · cases h
  | .lc elt tg src co own, c, e, h => by
    rw [kE.eq_def] at h
    dsimp only at h
    split at h
    · have h6 := and_r h
      have h5 := and_r (and_l h)
      have h4 := and_r (and_l (and_l h))
      have h3 := and_r (and_l (and_l (and_l h)))
      have h2 := and_r (and_l (and_l (and_l (and_l h))))
      have h1 := and_r (and_l (and_l (and_l (and_l (and_l h)))))
      have h0 := and_l (and_l (and_l (and_l (and_l (and_l h)))))
      exact s_lc h0 (slots_all h1) h2 (soundI src c _ h3) (soundG tg _ _ h4) (soundC co _ _ h5) (soundE elt _ _ h6)
    · cases h
theorem soundEs : ∀ (ir : Es) (c : Ctx) (es : List Expr), kEs U ir c es = true → SA U R N lv c (evEs N ir) es
  | .nil, c, es, h => by
    rw [kEs.eq_def] at h
    dsimp only at h
    split at h
    · exact s_nil
    · cases h
  | .cons a as, c, es, h => by
    rw [kEs.eq_def] at h
    dsimp only at h
    split at h
    · exact s_cons (and_l (and_l h)) (soundE a c _ (and_r (and_l h))) (soundEs as c _ (and_r h))
    · cases h
theorem soundEo : ∀ (ir : Eo) (c : Ctx) (e : Option Expr), kEo U ir c e = true → SO U R N lv c (evEo N ir) e
  | .no, c, e, h => by
    rw [kEo.eq_def] at h
    dsimp only at h
    split at h
    · exact s_ono
    · cases h
  | .yes a, c, e, h => by
    rw [kEo.eq_def] at h
    dsimp only at h
    split at h
    · exact s_oyes (soundE a c _ h)
    · cases h
theorem soundT : ∀ (ir : T) (c : Ctx) (e : Expr), kT U ir c e = true → ST U R N lv c (evT N ir) e
  | .val a, c, e, h => by
    rw [kT.eq_def] at h
    dsimp only at h
    exact s_tval (and_l h) (soundE a c _ (and_r h))
  | .cmp o a b, c, e, h => by
    rw [kT.eq_def] at h
    dsimp only at h
    split at h
    · exact s_tcmp (and_l (and_l (and_l h))) (and_r (and_l (and_l h))) (soundE a c _ (and_r (and_l h))) (soundE b c _ (and_r h))
    · cases h
  | .not a, c, e, h => by
    rw [kT.eq_def] at h
    dsimp only at h
    split at h
    · exact s_tnot (soundT a c _ h)
    · cases h
  | .and r, c, e, h => by
    rw [kT.eq_def] at h
    dsimp only at h
    split at h
    · exact s_tand (soundAnd r c _ _ h)
    · cases h
  | .or r, c, e, h => by
    rw [kT.eq_def] at h
    dsimp only at h
    split at h
    · exact s_tor (soundOr r c _ _ h)
    · cases h
theorem soundAnd : ∀ (ir : Ch) (c : Ctx) (p : Pos) (es : List Expr), kAnd U ir c p es = true → SW U R N lv c (evAnd N ir) (.BoolOp .And es p)
  | .one a, c, p, es, h => by
    rw [kAnd.eq_def] at h
    dsimp only at h
    split at h
    · exact s_and1 (soundT a c _ h)
    · cases h
  | .cons a r, c, p, es, h => by
    rw [kAnd.eq_def] at h
    dsimp only at h
    split at h
    · exact s_and (soundT a c _ (and_l h)) (soundAnd r c _ _ (and_r h))
    · cases h
theorem soundOr : ∀ (ir : Ch) (c : Ctx) (p : Pos) (es : List Expr), kAnd U ir c p es = true → SW U R N lv c (evOr N ir) (.BoolOp .Or es p)
  | .one a, c, p, es, h => by
    rw [kAnd.eq_def] at h
    dsimp only at h
    split at h
    · exact s_or1 (soundT a c _ h)
    · cases h
  | .cons a r, c, p, es, h => by
    rw [kAnd.eq_def] at h
    dsimp only at h
    split at h
    · exact s_or (soundT a c _ (and_l h)) (soundOr r c _ _ (and_r h))
    · cases h
theorem soundI : ∀ (ir : It) (c : Ctx) (e : Expr), kI U ir c e = true → SI U R N lv c (evIt N ir) e
  | .seq a, c, e, h => by
    rw [kI.eq_def] at h
    dsimp only at h
    exact i_seq (soundE a c _ h)
  | .rng1 a, c, e, h => by
    rw [kI.eq_def] at h
    dsimp only at h
    split at h
    · have e0 := of_decide_eq_true (and_l (and_l (and_l (and_l h))))
      subst e0
      exact i_rng1 (of_decide_eq_true (and_r (and_l (and_l (and_l h))))) (gloB_ok (and_r (and_l (and_l h)))) (and_r (and_l h)) (soundE a c _ (and_r h))
    · cases h
  | .rng2 a b, c, e, h => by
    rw [kI.eq_def] at h
    dsimp only at h
    split at h
    · have h6 := and_r h
      have h5 := and_r (and_l h)
      have h4 := and_r (and_l (and_l h))
      have h3 := and_r (and_l (and_l (and_l h)))
      have h2 := and_r (and_l (and_l (and_l (and_l h))))
      have h1 := and_r (and_l (and_l (and_l (and_l (and_l h)))))
      have h0 := and_l (and_l (and_l (and_l (and_l (and_l h)))))
      have e0 := of_decide_eq_true h0
      subst e0
      exact i_rng2 (of_decide_eq_true h1) (gloB_ok h2) h3 h4 (soundE a c _ h5) (soundE b c _ h6)
    · cases h
theorem soundG : ∀ (ir : Tg) (c : Ctx) (e : Expr), kG U ir c e = true → SG U R N lv c ir.slots (evTg N ir) e
  | .name i, c, e, h => by
    rw [kG.eq_def] at h
    dsimp only at h
    split at h
    · exact g_name (by rw [Tg.slots]; exact List.mem_singleton.mpr rfl) (of_decide_eq_true (and_l h)) (locB_ok (and_r h))
    · cases h
  | .tup ts, c, e, h => by
    rw [kG.eq_def] at h
    dsimp only at h
    split at h
    · rw [Tg.slots]
      exact g_tup (and_l (and_l h)) (of_decide_eq_true (and_r (and_l h))) (soundGs ts c _ (and_r h))
    · cases h
  | .sub a b, c, e, h => by
    rw [kG.eq_def] at h
    dsimp only at h
    split at h
    · exact g_sub (and_l (and_l h)) (soundE a c _ (and_r (and_l h))) (soundE b c _ (and_r h))
    · cases h
theorem soundGs : ∀ (ir : Tgs) (c : Ctx) (es : List Expr), kGs U ir c es = true → SGs U R N lv c ir.slots (evTgs N ir) es
  | .nil, c, es, h => by
    rw [kGs.eq_def] at h
    dsimp only at h
    split at h
    · exact g_nil
    · cases h
  | .cons t ts, c, es, h => by
    rw [kGs.eq_def] at h
    dsimp only at h
    split at h
    · rw [Tgs.slots]
      exact g_cons (and_l (and_l h)) (fun i hi => List.mem_append_left _ hi) (fun i hi => List.mem_append_right _ hi) (soundG t c _ (and_r (and_l h))) (soundGs ts c _ (and_r h))
    · cases h
theorem soundC : ∀ (ir : Co) (c : Ctx) (es : List Expr), kC U ir c es = true → STs U R N lv c (evCo N ir) es
  | .no, c, es, h => by
    rw [kC.eq_def] at h
    dsimp only at h
    split at h
    · exact co_no
    · cases h
  | .yes t, c, es, h => by
    rw [kC.eq_def] at h
    dsimp only at h
    split at h
    · exact co_yes (soundT t c _ h)
    · cases h
end
set_option maxHeartbeats 4000000 in
mutual
theorem soundS : ∀ (ir : S) (c : Ctx) (s : Stmt), kS U ir c s = true → SSt U R N lv c (evS N ir) s
  | .set i a, c, s, h => by
    rw [kS.eq_def] at h
    dsimp only at h
    split at h
    · refine t_set (of_decide_eq_true (and_l (and_l (and_l h)))) (locB_ok (and_r (and_l (and_l h)))) ?_ (soundE a c _ (and_r h))
      have h1 := and_r (and_l h)
      rcases Bool.or_eq_true_iff.mp h1 with h1 | h1
      · exact .inl h1
      · exact .inr (isCell_ok h1)
    · cases h
  | .setL i elt tg src co own, c, s, h => by
    rw [kS.eq_def] at h
    dsimp only at h
    split at h
    · have h11 := and_r h
      have h10 := and_r (and_l h)
      have h9 := and_r (and_l (and_l h))
      have h8 := and_r (and_l (and_l (and_l h)))
      have h7 := and_r (and_l (and_l (and_l (and_l h))))
      have h6 := and_r (and_l (and_l (and_l (and_l (and_l h)))))
      have h5 := and_r (and_l (and_l (and_l (and_l (and_l (and_l h))))))
      have h4 := and_r (and_l (and_l (and_l (and_l (and_l (and_l (and_l h)))))))
      have h3 := and_r (and_l (and_l (and_l (and_l (and_l (and_l (and_l (and_l h))))))))
      have h2 := and_r (and_l (and_l (and_l (and_l (and_l (and_l (and_l (and_l (and_l h)))))))))
      have h1 := and_r (and_l (and_l (and_l (and_l (and_l (and_l (and_l (and_l (and_l (and_l h))))))))))
      have h0 := and_l (and_l (and_l (and_l (and_l (and_l (and_l (and_l (and_l (and_l (and_l h))))))))))
      rw [Bool.not_eq_true'] at h4
      exact t_setL (of_decide_eq_true h0) (isLocal_ok h1) (isFun_ok h2) h3 h4 h5 (slots_all h6) h7 (soundI src c _ h8) (soundG tg _ _ h9) (soundC co _ _ h10) (soundE elt _ _ h11)
    · cases h
  | .asg t a, c, s, h => by
    rw [kS.eq_def] at h
    dsimp only at h
    split at h
    · exact t_asg (and_l (and_l (and_l (and_l h)))) (and_r (and_l (and_l (and_l h)))) (and_r (and_l (and_l h))) (soundE a c _ (and_r (and_l h))) (soundG t c _ (and_r h))
    · cases h
  | .expr a, c, s, h => by
    rw [kS.eq_def] at h
    dsimp only at h
    split at h
    · exact t_expr (and_l h) (soundE a c _ (and_r h))
    · cases h
  | .ret a, c, s, h => by
    rw [kS.eq_def] at h
    dsimp only at h
    split at h
    · exact t_ret (soundE a c _ h)
    · cases h
  | .retN, c, s, h => by
    rw [kS.eq_def] at h
    dsimp only at h
    split at h
    · exact t_retN
    · cases h
  | .pass, c, s, h => by
    rw [kS.eq_def] at h
    dsimp only at h
    split at h
    · exact t_pass
    · cases h
  | .brk, c, s, h => by
    rw [kS.eq_def] at h
    dsimp only at h
    split at h
    · exact t_brk
    · cases h
  | .cnt, c, s, h => by
    rw [kS.eq_def] at h
    dsimp only at h
    split at h
    · exact t_cnt
    · cases h
  | .ite t a b, c, s, h => by
    rw [kS.eq_def] at h
    dsimp only at h
    split at h
    · exact t_if (soundT t c _ (and_l (and_l h))) (soundSs a c _ (and_r (and_l h))) (soundSs b c _ (and_r h))
    · cases h
  | .for_ tg src body, c, s, h => by
    rw [kS.eq_def] at h
    dsimp only at h
    split at h
    · exact t_for (and_l (and_l (and_l h))) (soundI src c _ (and_r (and_l (and_l h)))) (soundG tg c _ (and_r (and_l h))) (soundSs body c _ (and_r h))
    · cases h
  | .while_ t body, c, s, h => by
    rw [kS.eq_def] at h
    dsimp only at h
    split at h
    · exact t_while (soundT t c _ (and_l h)) (soundSs body c _ (and_r h))
    · cases h
theorem soundSs : ∀ (ir : Ss) (c : Ctx) (ss : List Stmt), kSs U ir c ss = true → SSs U R N lv c (evSs N ir) ss
  | .nil, c, ss, h => by
    rw [kSs.eq_def] at h
    dsimp only at h
    split at h
    · exact t_nil
    · cases h
  | .cons s r, c, ss, h => by
    rw [kSs.eq_def] at h
    dsimp only at h
    split at h
    · exact t_cons (soundS s c _ (and_l h)) (soundSs r c _ (and_r h))
    · cases h
end
end
end FL
set_option Elab.async false
set_option linter.all false
set_option maxRecDepth 100000
set_option maxHeartbeats 1000000
/-! FL9: defs by their code; the end of a law. -/
namespace FL
open PySem PySem.Spec PyProof.Rows L2

theorem lookup_zip {α : Type} {n : Str} : ∀ {ps : List Str} {us : List α}, us.length = ps.length → n ∈ ps → ((ps.zip us).lookup n).isNone = false
  | p :: ps, u :: us, hl, h => by
    rw [List.zip_cons_cons, List.lookup_cons]
    cases q : n == p with
    | true => rfl
    | false =>
      have : n ∈ ps := (List.mem_cons.mp h).resolve_left fun e => by rw [e] at q; simp at q
      exact lookup_zip (by simpa using hl) this
  | p :: ps, [], hl, h => by simp at hl
theorem zip_look {α : Type} : ∀ {ps : List Str} {us : List α}, us.length = ps.length → ps.Nodup → ps.filterMap (fun n => ((ps.zip us).lookup n).map (n, ·)) = ps.zip us
  | [], [], _, _ => rfl
  | [], _ :: _, hl, _ => by simp at hl
  | _ :: _, [], hl, _ => by simp at hl
  | p :: ps, u :: us, hl, nd => by
    have nd' := List.nodup_cons.mp nd
    rw [List.zip_cons_cons, List.filterMap_cons, List.lookup_cons_self, Option.map_some]
    have e : ps.filterMap (fun n => (((p, u) :: ps.zip us).lookup n).map (n, ·)) = ps.filterMap (fun n => ((ps.zip us).lookup n).map (n, ·)) := by
      have z : ∀ qs : List Str, (∀ n ∈ qs, (n == p) = false) → qs.filterMap (fun n => (((p, u) :: ps.zip us).lookup n).map (n, ·)) = qs.filterMap (fun n => ((ps.zip us).lookup n).map (n, ·)) := by
        intro qs
        induction qs with
        | nil => intro _; rfl
        | cons q qs ih =>
          intro h
          rw [List.filterMap_cons, List.filterMap_cons, List.lookup_cons, h q List.mem_cons_self, ih fun n hn => h n (List.mem_cons_of_mem _ hn)]
      exact z ps fun n hn => beq_eq_false_iff_ne.mpr fun (e : n = p) => nd'.1 (e ▸ hn)
    show (p, u) :: _ = _
    rw [e, zip_look (by simpa using hl) nd'.2]
theorem bind_ok {x qual : Str} {ar : List Arg} {body : List Stmt} {sc : Scope} {kV doc pm cdv ct : Value} {an : Option Addr} {us : List Value} (hl : us.length = ar.length) (nd : (ar.map (·.arg)).Nodup) :
    bindArgs (PySem.W.fnOf x qual ⟨[], ar, none, [], [], none, []⟩ body sc .none kV doc pm an cdv ct) ⟨us, []⟩ = pure ((ar.map (·.arg)).zip us) := by
  have h1 : ((ar.map (·.arg)).filter fun n => (((ar.map (·.arg)).zip us).lookup n).isNone) = [] := by
    rw [List.filter_eq_nil_iff]
    intro n hn
    rw [lookup_zip (by rw [List.length_map]; exact hl) hn]
    decide
  have h2 : (ar.map (·.arg)).take ar.length = ar.map (·.arg) := by
    have := List.take_length (l := ar.map (·.arg))
    rwa [List.length_map] at this
  have h3 := zip_look (ps := ar.map (·.arg)) (us := us) (by rw [List.length_map]; exact hl) nd
  unfold bindArgs
  simp only [PySem.W.fnOf, List.map_nil, List.nil_append, List.length_map, List.forIn_nil, List.append_nil]
  have h4 : (PySem.seqItems? Value.none : Sem (Option (Array Value))) = pure none := rfl
  rw [h4]
  simp only [hl, gt_iff_lt, Nat.lt_irrefl, decide_false, Bool.false_and, pure_bind, Option.getD_none]
  have h5 : ((List.map (fun x => x.arg) ar).take (ar.length - ((#[] : Array Value).toList.drop ((#[] : Array Value).toList.length - ar.length)).length)) = List.map (fun x => x.arg) ar := by
    simp [h2]
  simp [h1, h2]
  rw [List.filterMap_map] at h3
  rw [h3]

/-! ### defs -/
structure Def where
  name : Str
  st : Stmt
  N : List Str
  ps : List Str
  body : Ss
def startE (n : Nat) (ds : List D) : En := ds.map some ++ List.replicate (n - ds.length) none
def SR.fin : SR → Res D
  | .ok (.ret v) _ st => .ok v st
  | .ok .nx _ st => .ok .non st
  | .ok _ _ _ => .bad
  | .exc c fs _ st => .exc c fs st
  | .bad => .bad
def runF (T : List Def) (W : Nat) : Nat → Nat → List D → Sto → Res D
  | 0, _, _, _ => .bad
  | n + 1, k, ds, st => match T[k]? with
    | some d => if ds.length = d.ps.length then (evSs ⟨runF T W n, W⟩ d.body (startE d.N.length ds) st).fin else .bad
    | none => .bad
def plainArgs (a : Arguments) (ps : List Str) : Bool := match a with
  | ⟨[], ar, none, [], [], none, []⟩ => decide (ar.map (·.arg) = ps)
  | _ => false
def fnB (d : Def) : Bool := isFun (defScope d.st) && !(defScope d.st).isCoroutine && !(defScope d.st).isGenerator && decide (d.N.Nodup) && decide (d.N.take d.ps.length = d.ps) &&
  d.ps.all (fun x => isLocal (defScope d.st) x || isCell (defScope d.st) x) && (defScope d.st).names.all (fun y => !(y.2 == .free)) && plainArgs (defArgs d.st) d.ps && decide (d.ps.Nodup)
def ctxOf (d : Def) : Ctx := ⟨defScope d.st, d.N, fun _ => true⟩
def nmsOf (T : List Def) (free : List Str) : Nms := ⟨T.map fun d => (d.name, d.ps.length), free⟩
/-- the whole table is held against the text -/
def kDef (T : List Def) (free : List Str) (d : Def) : Bool := fnB d && kSs (nmsOf T free) d.body (ctxOf d) (defBody d.st)
theorem fnB_ok {d : Def} (h : fnB d = true) : FnScope d.N d.ps (defScope d.st) ∧ plainArgs (defArgs d.st) d.ps = true ∧ d.ps.Nodup := by
  unfold fnB at h
  have h8 := and_r h
  have h7 := and_r (and_l h)
  have h6 := and_r (and_l (and_l h))
  have h5 := and_r (and_l (and_l (and_l h)))
  have h4 := and_r (and_l (and_l (and_l (and_l h))))
  have h3 := and_r (and_l (and_l (and_l (and_l (and_l h)))))
  have h2 := and_r (and_l (and_l (and_l (and_l (and_l (and_l h))))))
  have h1 := and_r (and_l (and_l (and_l (and_l (and_l (and_l (and_l h)))))))
  have h0 := and_l (and_l (and_l (and_l (and_l (and_l (and_l (and_l h)))))))
  rw [Bool.not_eq_true'] at h1 h2
  refine ⟨⟨isFun_ok h0, h1, h2, of_decide_eq_true h3, of_decide_eq_true h4, fun x hx => ?_, fun y hy => ?_⟩, h7, of_decide_eq_true h8⟩
  · rcases Bool.or_eq_true_iff.mp (List.all_eq_true.mp h5 x hx) with q | q
    · exact .inl (isLocal_ok q)
    · exact .inr (isCell_ok q)
  · have q := List.all_eq_true.mp h6 y hy
    rw [Bool.not_eq_true'] at q
    intro e
    rw [e] at q
    exact absurd q (by decide)
section
variable {P : Program} {w : World} {K : PySem.W.Frag} {mg : Str → Option Value} {base : Heap}
theorem binds_of {x qual : Str} {st : Stmt} {f : Addr} {fd : FuncData} {ps : List Str} (F : FunD K x qual (defArgs st) (defBody st) (defScope st) [] [] f fd) (h : plainArgs (defArgs st) ps = true) (nd : ps.Nodup) :
    Binds K fd ps [] ∧ ∀ (s : Shared) (us : List Value), us.length = ps.length → BindsTo s fd ⟨us, []⟩ (ps.zip us) := by
  have key : ∀ (kV doc pm : Value) (an : Option Addr) (cdv ct : Value) (us : List Value), us.length = ps.length → bindArgs (PySem.W.fnOf x qual (defArgs st) (defBody st) (defScope st) .none kV doc pm an cdv ct) ⟨us, []⟩ = pure (ps.zip us) := by
    intro kV doc pm an cdv ct us hl
    unfold plainArgs at h
    split at h
    · rename_i ar e
      rw [e]
      have e1 := of_decide_eq_true h
      rw [← e1] at nd hl ⊢
      exact bind_ok (by rw [List.length_map] at hl; exact hl) nd
    · cases h
  exact ⟨F.bindsN key, F.bindsA key⟩
theorem start_rel {R : Rt} {m : List Addr} {H : Hp} : ∀ {vs : List V} {ds : List D} (r : RelL R m H vs ds) (N : List Str), RelE R m H (L2.start N vs) (startE N.length ds) := by
  intro vs ds r N
  have key : ∀ {vs : List V} {ds : List D}, RelL R m H vs ds → ∀ (i : Nat) (d : D), (ds.map some)[i]? = some (some d) → ∃ v, (vs.map some)[i]? = some (some v) ∧ Rel R m H v d := by
    intro vs ds r i d e
    rw [List.getElem?_map] at e
    cases q : ds[i]? with
    | none => rw [q] at e; cases e
    | some d' =>
      rw [q] at e
      cases e
      obtain ⟨v, hv, rv⟩ := r.get q
      exact ⟨v, by rw [List.getElem?_map, hv]; rfl, rv⟩
  unfold L2.start startE
  rw [← r.length]
  refine ⟨by simp [r.length], fun i d e => ?_⟩
  by_cases hi : i < ds.length
  · rw [List.getElem?_append_left (by rw [List.length_map]; exact hi)] at e
    obtain ⟨v, hv, rv⟩ := key r i d e
    exact ⟨v, by rw [List.getElem?_append_left (by rw [List.length_map, r.length]; exact hi)]; exact hv, rv⟩
  · rw [List.getElem?_append_right (by rw [List.length_map]; omega), List.getElem?_replicate] at e
    split at e <;> cases e
theorem runF_len {T : List Def} {W n k : Nat} {ds : List D} {st : Sto} {d : Def} (h : T[k]? = some d) (hb : runF T W n k ds st ≠ .bad) : ds.length = d.ps.length := by
  cases n with
  | zero => exact absurd rfl hb
  | succ n =>
    rw [runF, h] at hb
    by_cases q : ds.length = d.ps.length
    · exact q
    · exact absurd (if_neg q) hb
/-- each def keeps the promise of its code -/
theorem fns_ok {T : List Def} {free : List Str} {cl : Nat → Addr} (W : Nat) (hK : T.all (kDef T free) = true) (fA : Nat → Addr) (fD : Nat → FuncData)
    (hF : ∀ (k : Nat) (d : Def), T[k]? = some d → FunD K d.name d.name (defArgs d.st) (defBody d.st) (defScope d.st) [] [] (fA k) (fD k) ∧ mg d.name = some (.ref (fA k))) (hfree : ∀ x ∈ free, mg x = none) :
    ∀ (n k : Nat) (d : Def), T[k]? = some d → FnOk P w K mg base (L2.CX P w) n (fA k) (fD k) d.ps (spF ⟨K, cl⟩ (runF T W n) k) := by
  have ck : ∀ (k : Nat) (d : Def), T[k]? = some d → kDef T free d = true := fun k d h => List.all_eq_true.mp hK d (List.mem_of_getElem? h)
  have len : ∀ (n k : Nat) (d : Def), T[k]? = some d → ∀ vs H Q E, spF ⟨K, cl⟩ (runF T W n) k vs H Q E → vs.length = d.ps.length := by
    intro n k d h vs H Q E hsp
    obtain ⟨m, ds, st, r, S, q⟩ := hsp
    rw [r.length]
    refine runF_len (W := W) (n := n) (st := st) h fun e => ?_
    rw [e] at q
    exact q
  intro n
  induction n with
  | zero =>
    intro k d h
    exact ⟨len 0 k d h, fun A outer s H args us vs Q E _ _ _ _ hsp => by
      obtain ⟨m, ds, st, r, S, q⟩ := hsp
      exact q.elim⟩
  | succ n ih =>
    intro k d h
    obtain ⟨F, hm⟩ := hF k d h
    obtain ⟨fs, hp, nd⟩ := fnB_ok (and_l (ck k d h))
    refine F.ok fs (len (n + 1) k d h) fun cdv A outer s H vs Q E hr hsp => ?_
    have hl := len (n + 1) k d h vs H Q E hsp
    obtain ⟨m, ds, st, r, S, q⟩ := hsp
    refine ⟨tS ⟨K, cl⟩ (fun cls dx _ H' => E cls dx H') (evSs ⟨runF T W n, W⟩ d.body), ?_, m, _, st, start_rel r d.N, S, ?_⟩
    · refine soundSs (U := nmsOf T free) (R := ⟨K, cl⟩) (N := ⟨runF T W n, W⟩) (lv := n) d.body (ctxOf d) (defBody d.st) (and_r (ck k d h)) _ _ ?_ ?_
      · refine ⟨⟨rfl, rfl, fs.nd, rfl, rfl, hr, rfl, ⟨hfree, fun k' x np hk => ?_⟩⟩, passes_of rfl⟩
        have hk : (T.map fun d => (d.name, d.ps.length))[k']? = some (x, np) := hk
        rw [List.getElem?_map] at hk
        cases q2 : T[k']? with
        | none => rw [q2] at hk; cases hk
        | some d' =>
          rw [q2] at hk
          cases hk
          obtain ⟨F', hm'⟩ := hF k' d' q2
          obtain ⟨fs', hp', nd'⟩ := fnB_ok (and_l (ck k' d' q2))
          exact ⟨fA k', fD k', d'.ps, hm', F'.kp, (binds_of F' hp' nd').1, ih k' d' q2⟩
      · exact takes_of (E := E) rfl rfl rfl rfl
    · rw [runF, h] at q
      have hl2 : ds.length = d.ps.length := by rw [← r.length]; exact hl
      dsimp only at q
      rw [if_pos hl2] at q
      cases e : evSs ⟨runF T W n, W⟩ d.body (startE d.N.length ds) st with
      | bad => rw [e] at q; exact q
      | exc c fs e2 s2 =>
        rw [e] at q
        exact fun m' H' σ' cls dx e1 S1 _ x => q m' H' cls dx e1 S1 x
      | ok f e2 s2 =>
        rw [e] at q
        cases f with
        | nx => exact fun m' H' σ' e1 S1 _ => q m' H' .non e1 S1 .non
        | brk => exact q.elim
        | cnt => exact q.elim
        | ret v => exact fun m' H' v' e1 S1 r1 => q m' H' v' e1 S1 r1
/-- what the heap of the script is -/
theorem script_rel {cl : Nat → Addr} {H : Hp} {a : Addr} {ns : List Int} (hO : Only H) (hS : SqL K H a (ns.map V.int)) : RelSt ⟨K, cl⟩ [a] H [.scr (ns.map .int)] ∧ RelL ⟨K, cl⟩ [a] H [.ref a] [.ref 0] := by
  refine ⟨⟨rfl, fun r o b e eb => ?_, fun r r' b o o' _ _ e e' hf hf' => ?_⟩, .cons (.ref rfl) .nil⟩
  · cases r with
    | zero =>
      cases e
      cases eb
      refine ⟨ns.map V.int, ?_, RelL.ints ns⟩
      rcases hS with (h | ⟨o, h⟩) | h
      · rcases hO a with z | ⟨o, xs, z⟩
        · rw [h] at z; cases z
        · rw [h] at z; cases z
      · exact .inl ⟨o, h⟩
      · exact .inr h
    | succ r => cases e
  · cases r with
    | zero => cases e; cases hf
    | succ r => cases e
end
/-- the head's facts of a table -/
def dds (T : List Def) : List He.DefD := T.map fun d => ⟨(d.name, none), d.name, d.name, defArgs d.st, defBody d.st, defScope d.st, [], []⟩
def fas (T : List Def) (free : List Str) : List He.Fa := T.map (fun d => He.Fa.glo d.name) ++ free.map He.Fa.free
theorem law_end {P : Program} {w : World} {K : PySem.W.Frag} {h : Heap} {mg : Str → Option Value} {fa : Addr} {T : List Def} {free : List Str} {kl lv W : Nat} {dl : Def} (X : K.In h) (G : h.Ns mainGlobals mg) (c : He.SaysD (fas T free) (dds T) K)
    (hK : T.all (kDef T free) = true) (hl : T[kl]? = some dl) (hps : dl.ps = [("script" : Str)]) (hfa : mg dl.name = some (.ref fa))
    (hrun : ∀ ns : List Int, ns.length ≤ 63 → ∃ st, runF T W lv kl [.ref 0] [.scr (ns.map .int)] = .ok (.bl true) st) :
    ∃ (K : PySem.W.Frag) (fd : FuncData) (sp : Sp), K.In h ∧ (∀ (s : Shared) (u : Value), BindsTo s fd ⟨[u], []⟩ [("script", u)]) ∧
      (∀ (H : Hp) (a : Addr) (ns : List Int), ns.length ≤ 63 → Only H → SqL K H a (ns.map V.int) → sp [.ref a] H (fun v _ => v = .bl true) fun _ _ _ => False) ∧
      ∀ base : Heap, K.In base → base.Ns mainGlobals mg → FnOk P w K mg base (L2.CX P w) lv fa fd [("script" : Str)] sp := by
  have ex : ∀ (k : Nat) (d : Def), T[k]? = some d → ∃ fd, FunD K d.name d.name (defArgs d.st) (defBody d.st) (defScope d.st) [] [] (He.fAd K (d.name, none)) fd := fun k d hk => by
    have e : (dds T)[k]? = some ⟨(d.name, none), d.name, d.name, defArgs d.st, defBody d.st, defScope d.st, [], []⟩ := by
      unfold dds
      rw [List.getElem?_map, hk]
      rfl
    exact c.def_ k e
  have ex' : ∀ k : Nat, ∃ fd : FuncData, ∀ d : Def, T[k]? = some d → FunD K d.name d.name (defArgs d.st) (defBody d.st) (defScope d.st) [] [] (He.fAd K (d.name, none)) fd := fun k => by
    cases q : T[k]? with
    | none => exact ⟨(ex kl dl hl).choose, fun d e => nomatch e⟩
    | some d =>
      obtain ⟨fd, F⟩ := ex k d q
      exact ⟨fd, fun d' e => by cases e; exact F⟩
  let fD : Nat → FuncData := fun k => (ex' k).choose
  let fA : Nat → Addr := fun k => match T[k]? with
    | some (d : Def) => He.fAd K (d.name, none)
    | none => 0
  have gl : ∀ (k : Nat) (d : Def), T[k]? = some d → mg d.name = some (.ref (He.fAd K (d.name, none))) := fun k d hk => by
    have hk1 : k < T.length := (List.getElem?_eq_some_iff.mp hk).1
    have e : (fas T free)[k]? = some (He.Fa.glo d.name) := by
      unfold fas
      rw [List.getElem?_append_left (by rw [List.length_map]; exact hk1), List.getElem?_map, hk]
      rfl
    exact He.glo_ok X G (c.fact k e)
  have hF : ∀ (k : Nat) (d : Def), T[k]? = some d → FunD K d.name d.name (defArgs d.st) (defBody d.st) (defScope d.st) [] [] (fA k) (fD k) ∧ mg d.name = some (.ref (fA k)) := fun k d hk => by
    have eA : fA k = He.fAd K (d.name, none) := by
      show (match T[k]? with | some d => He.fAd K (d.name, none) | none => 0) = _
      rw [hk]
    rw [eA]
    exact ⟨(ex' k).choose_spec d hk, gl k d hk⟩
  have hfree : ∀ x ∈ free, mg x = none := fun x hx => by
    obtain ⟨i, hi⟩ := List.getElem?_of_mem hx
    have e : (fas T free)[T.length + i]? = some (He.Fa.free x) := by
      unfold fas
      rw [List.getElem?_append_right (by rw [List.length_map]; omega), List.length_map, Nat.add_sub_cancel_left, List.getElem?_map, hi]
      rfl
    exact He.free_ok X G (c.fact _ e)
  obtain ⟨Fl_, hm⟩ := hF kl dl hl
  have ek : kDef T free dl = true := List.all_eq_true.mp hK dl (List.mem_of_getElem? hl)
  obtain ⟨_, hp, nd⟩ := fnB_ok (and_l ek)
  have b := (binds_of Fl_ hp nd).2
  have efa : fa = fA kl := by
    have e := hfa.symm.trans hm
    cases e
    rfl
  subst efa
  refine ⟨K, fD kl, spF ⟨K, fun _ => 0⟩ (runF T W lv) kl, X, fun s u => ?_, fun H a ns hn hO hS => ?_, fun base _ _ => ?_⟩
  · have := b s [u] (by rw [hps]; rfl)
    rw [hps] at this
    exact this
  · obtain ⟨S, r⟩ := script_rel (cl := fun _ => 0) hO hS
    obtain ⟨st, e⟩ := hrun ns hn
    refine ⟨[a], [.ref 0], [.scr (ns.map .int)], r, S, ?_⟩
    rw [e]
    intro m' H' v _ _ rv
    cases rv
    rfl
  · have := fns_ok (P := P) (w := w) (base := base) (cl := fun _ => 0) W hK fA fD hF hfree lv kl dl hl
    rw [hps] at this
    exact this
/-- the end of a law's row -/
theorem walk_fl {l : PySem.W.OpenLaw} {k : Nat} {q : Program} {loose : List Str} {XP : (Str → Option Value) → Heap → Prop} {YP : World → Heap → Prop} {d : DefRec}
    (hn : l.most = some 63) (hdf : d.params.defaults = []) (hr : Room k callerA)
    (F : ∀ (w : World) (mg : Str → Option Value) (fa : Addr) (h : Heap), YP w h → h.Ns mainGlobals mg → mg d.name = some (.ref fa) →
      ∃ (K : PySem.W.Frag) (fd : FuncData) (sp : Sp), K.In h ∧ (∀ (s : Shared) (u : Value), BindsTo s fd ⟨[u], []⟩ [("script", u)]) ∧
        (∀ (H : Hp) (a : Addr) (ns : List Int), ns.length ≤ 63 → Only H → SqL K H a (ns.map V.int) → sp [.ref a] H (fun v _ => v = .bl true) fun _ _ _ => False) ∧
        ∀ base : Heap, K.In base → base.Ns mainGlobals mg → FnOk l.prog w K mg base (L2.CX l.prog w) k fa fd [("script" : Str)] sp) :
    PySem.W.WalkO q loose XP YP l.row.toRowW d [] (fun f vs => PySem.call f vs) := by
  refine Att.attach_call hn hdf fun w s₀ s₁ mg mb fa o pm cd doc a vs ns G Y ho hd hcd hmg hobj hints hlen hg => ?_
  obtain ⟨K, fd, sp, KX, hb, hsp, hF⟩ := F w mg fa _ Y G.T.g hmg
  refine law_call KX G.T.g G.T.b G.T.builtins G.T.nolimit hg hobj hints (Nat.le_trans hlen (by decide)) hr hF hb (fun H hO hS => hsp H a ns hlen hO hS) fun H e s' z => ?_
  obtain ⟨_, _, _, _, _, _, _, _, _, _, _, _, z⟩ := z
  exact z
end FL
set_option Elab.async false
set_option linter.all false
set_option maxRecDepth 100000
set_option maxHeartbeats 1000000
/-! FLX: how the code is run by hand. -/
namespace FL
open PySem PySem.Spec PyProof.Rows L2
theorem bind_okR {α β : Type} (a : α) (st : Sto) (g : α → Sto → Res β) : (Res.ok a st).bind g = g a st := (Eq.refl _).trans (Eq.refl _)
theorem toS_okR {α : Type} (a : α) (st : Sto) (env : En) (g : α → Sto → SR) : (Res.ok a st).toS env g = g a st := (Eq.refl _).trans (Eq.refl _)
theorem noX_okR {α : Type} (a : α) (st : Sto) : (Res.ok a st).noX = .ok a st := (Eq.refl _).trans (Eq.refl _)
theorem seq_nx (env : En) (st : Sto) (g : En → Sto → SR) : (SR.ok .nx env st).seq g = g env st := (Eq.refl _).trans (Eq.refl _)
theorem seq_ret (d : D) (env : En) (st : Sto) (g : En → Sto → SR) : (SR.ok (.ret d) env st).seq g = .ok (.ret d) env st := (Eq.refl _).trans (Eq.refl _)
theorem seq_brk (env : En) (st : Sto) (g : En → Sto → SR) : (SR.ok .brk env st).seq g = .ok .brk env st := (Eq.refl _).trans (Eq.refl _)
theorem seq_cnt (env : En) (st : Sto) (g : En → Sto → SR) : (SR.ok .cnt env st).seq g = .ok .cnt env st := (Eq.refl _).trans (Eq.refl _)
theorem turn_nx (env : En) (st : Sto) (g : En → Sto → SR) : (SR.ok .nx env st).turn g = g env st := (Eq.refl _).trans (Eq.refl _)
theorem turn_cnt (env : En) (st : Sto) (g : En → Sto → SR) : (SR.ok .cnt env st).turn g = g env st := (Eq.refl _).trans (Eq.refl _)
theorem turn_ret (d : D) (env : En) (st : Sto) (g : En → Sto → SR) : (SR.ok (.ret d) env st).turn g = .ok (.ret d) env st := (Eq.refl _).trans (Eq.refl _)
theorem turn_brk (env : En) (st : Sto) (g : En → Sto → SR) : (SR.ok .brk env st).turn g = .ok .nx env st := (Eq.refl _).trans (Eq.refl _)
theorem fin_ret (d : D) (env : En) (st : Sto) : (SR.ok (.ret d) env st).fin = .ok d st := (Eq.refl _).trans (Eq.refl _)
theorem fin_nx (env : En) (st : Sto) : (SR.ok .nx env st).fin = .ok .non st := (Eq.refl _).trans (Eq.refl _)
theorem ofO_some {α : Type} (a : α) (st : Sto) : Res.ofO (some (a, st)) = .ok a st := (Eq.refl _).trans (Eq.refl _)
theorem br_t {α : Type} (f g : Sto → α) (st : Sto) : br f g true st = f st := (Eq.refl _).trans (Eq.refl _)
theorem br_f {α : Type} (f g : Sto → α) (st : Sto) : br f g false st = g st := (Eq.refl _).trans (Eq.refl _)
theorem evSs_c (N : Rn) (s : S) (r : Ss) (env : En) (st : Sto) : evSs N (.cons s r) env st = (evS N s env st).seq (evSs N r) := by rw [evSs]
theorem evSs_n (N : Rn) (env : En) (st : Sto) : evSs N .nil env st = .ok .nx env st := by rw [evSs]
/-! the store: old ++ new -/
theorem get_app0 (st l : Sto) : (st ++ l)[st.length]? = l[0]? := by rw [List.getElem?_append_right (Nat.le_refl _), Nat.sub_self]
theorem get_appN (st l : Sto) (i : Nat) : (st ++ l)[st.length + i]? = l[i]? := by rw [List.getElem?_append_right (Nat.le_add_right _ _), Nat.add_sub_cancel_left]
theorem set_app0 (st l : Sto) (o : O) : (st ++ l).set st.length o = st ++ l.set 0 o := by rw [List.set_append_right _ _ (Nat.le_refl _), Nat.sub_self]
theorem set_appN (st l : Sto) (o : O) (i : Nat) : (st ++ l).set (st.length + i) o = st ++ l.set i o := by rw [List.set_append_right _ _ (Nat.le_add_right _ _), Nat.add_sub_cancel_left]
theorem get_old {st l : Sto} {r : Nat} {o : O} (h : st[r]? = some o) : (st ++ l)[r]? = some o := by
  rw [List.getElem?_append_left (List.getElem?_eq_some_iff.mp h).1]
  exact h
theorem set_old {st l : Sto} {r : Nat} {o o' : O} (h : st[r]? = some o) : (st ++ l).set r o' = st.set r o' ++ l := List.set_append_left _ _ (List.getElem?_eq_some_iff.mp h).1
theorem lstOf_lst {st : Sto} {r : Nat} {ds : List D} (h : st[r]? = some (.lst ds)) : lstOf st r = some ds := by unfold lstOf; rw [h]
theorem lstOf_scr {st : Sto} {r : Nat} {ds : List D} (h : st[r]? = some (.scr ds)) : lstOf st r = some ds := by unfold lstOf; rw [h]
/-! loops -/
def TurnOk (P : En → Sto → Prop) (Q : SR → Prop) : SR → Prop
  | .ok .nx env st => P env st
  | .ok .cnt env st => P env st
  | .ok .brk env st => Q (.ok .nx env st)
  | r => Q r
theorem for_rule {src : Src} {body : D → En → Sto → SR} (ds : List D) (P : Nat → En → Sto → Prop) (Q : SR → Prop) (hg : ∀ i env st, i ≤ ds.length → P i env st → src.get i st = some ds[i]?)
    (hb : ∀ i x env st, ds[i]? = some x → P i env st → TurnOk (P (i + 1)) Q (body x env st)) (he : ∀ env st, P ds.length env st → Q (.ok .nx env st)) :
    ∀ n i env st, ds.length ≤ n + i → i ≤ ds.length → P i env st → Q (forGo src body n i env st) := by
  intro n
  induction n with
  | zero =>
    intro i env st h1 h2 p
    have e : i = ds.length := by omega
    subst e
    have g := hg _ env st (Nat.le_refl _) p
    rw [List.getElem?_eq_none (Nat.le_refl _)] at g
    simp only [forGo, g]
    exact he env st p
  | succ n ih =>
    intro i env st h1 h2 p
    have g := hg i env st h2 p
    by_cases hi : i < ds.length
    · rw [List.getElem?_eq_getElem hi] at g
      simp only [forGo, g]
      have b := hb i _ env st (List.getElem?_eq_getElem hi) p
      cases e : body ds[i] env st with
      | bad => rw [e] at b; exact b
      | exc c fs e2 s2 => rw [e] at b; exact b
      | ok f e2 s2 =>
        rw [e] at b
        cases f with
        | nx => exact ih (i + 1) e2 s2 (by omega) hi b
        | cnt => exact ih (i + 1) e2 s2 (by omega) hi b
        | brk => exact b
        | ret d => exact b
    · have e : i = ds.length := by omega
      subst e
      rw [List.getElem?_eq_none (Nat.le_refl _)] at g
      simp only [forGo, g]
      exact he env st p
/-- over things that stand still: the start -/
theorem for_items {body : D → En → Sto → SR} (ds : List D) (P : Nat → En → Sto → Prop) (Q : SR → Prop) {env : En} {st : Sto} (h0 : P 0 env st)
    (hb : ∀ i x env st, ds[i]? = some x → P i env st → TurnOk (P (i + 1)) Q (body x env st)) (he : ∀ env st, P ds.length env st → Q (.ok .nx env st)) :
    Q (forGo (.items ds) body (Src.items ds).n 0 env st) :=
  for_rule ds P Q (fun _ _ _ _ _ => rfl) hb he _ _ _ _ (by show ds.length ≤ ds.length + 0; omega) (Nat.zero_le _) h0
/-- over a list of the store that stands still -/
theorem for_live {body : D → En → Sto → SR} {W r : Nat} (ds : List D) (P : Nat → En → Sto → Prop) (Q : SR → Prop) {env : En} {st : Sto} (hl : ds.length ≤ W) (h0 : P 0 env st) (hs : ∀ i env st, i ≤ ds.length → P i env st → lstOf st r = some ds)
    (hb : ∀ i x env st, ds[i]? = some x → P i env st → TurnOk (P (i + 1)) Q (body x env st)) (he : ∀ env st, P ds.length env st → Q (.ok .nx env st)) :
    Q (forGo (.live W r) body (Src.live W r).n 0 env st) :=
  for_rule ds P Q (fun i env st hi p => by show (lstOf st r).map _ = _; rw [hs i env st hi p]; rfl) hb he _ _ _ _ (by show ds.length ≤ W + 0; omega) (Nat.zero_le _) h0
/-- a comprehension -/
theorem lc_rule {src : Src} {body : D → Sto → Res (Option D)} {r : Nat} (ds : List D) (P : Nat → Sto → Prop) (Q : Res D → Prop) (hg : ∀ i st, i ≤ ds.length → P i st → src.get i st = some ds[i]?)
    (hb : ∀ i x st, ds[i]? = some x → P i st → ∃ y st1, body x st = .ok y st1 ∧ match y with | none => P (i + 1) st1 | some d => ∃ acc, st1[r]? = some (.lst acc) ∧ acc.length < sizeLine ∧ P (i + 1) (st1.set r (.lst (acc ++ [d])))) (he : ∀ st, P ds.length st → Q (.ok (.ref r) st)) :
    ∀ n i st, ds.length ≤ n + i → i ≤ ds.length → P i st → Q (lcGo src body r n i st) := by
  intro n
  induction n with
  | zero =>
    intro i st h1 h2 p
    have e : i = ds.length := by omega
    subst e
    have g := hg _ st (Nat.le_refl _) p
    rw [List.getElem?_eq_none (Nat.le_refl _)] at g
    simp only [lcGo, g]
    exact he st p
  | succ n ih =>
    intro i st h1 h2 p
    have g := hg i st h2 p
    by_cases hi : i < ds.length
    · rw [List.getElem?_eq_getElem hi] at g
      simp only [lcGo, g]
      obtain ⟨y, st1, e, b⟩ := hb i _ st (List.getElem?_eq_getElem hi) p
      rw [e]
      cases y with
      | none => exact ih (i + 1) st1 (by omega) hi b
      | some d =>
        obtain ⟨acc, h3, h4, h5⟩ := b
        show Q (match st1[r]? with | some (.lst acc) => if acc.length < sizeLine then lcGo src body r n (i + 1) (st1.set r (.lst (acc ++ [d]))) else .bad | _ => .bad)
        rw [h3]
        dsimp only
        rw [if_pos h4]
        exact ih (i + 1) _ (by omega) hi h5
    · have e : i = ds.length := by omega
      subst e
      rw [List.getElem?_eq_none (Nat.le_refl _)] at g
      simp only [lcGo, g]
      exact he st p
theorem lc_items {body : D → Sto → Res (Option D)} {r : Nat} (ds : List D) (P : Nat → Sto → Prop) (Q : Res D → Prop) {st : Sto} (h0 : P 0 st)
    (hb : ∀ i x st, ds[i]? = some x → P i st → ∃ y st1, body x st = .ok y st1 ∧ match y with | none => P (i + 1) st1 | some d => ∃ acc, st1[r]? = some (.lst acc) ∧ acc.length < sizeLine ∧ P (i + 1) (st1.set r (.lst (acc ++ [d])))) (he : ∀ st, P ds.length st → Q (.ok (.ref r) st)) :
    Q (lcGo (.items ds) body r (Src.items ds).n 0 st) :=
  lc_rule ds P Q (fun _ _ _ _ => rfl) hb he _ _ _ (by show ds.length ≤ ds.length + 0; omega) (Nat.zero_le _) h0
theorem lc_live {body : D → Sto → Res (Option D)} {W q r : Nat} (ds : List D) (P : Nat → Sto → Prop) (Q : Res D → Prop) {st : Sto} (hl : ds.length ≤ W) (h0 : P 0 st) (hs : ∀ i st, i ≤ ds.length → P i st → lstOf st q = some ds)
    (hb : ∀ i x st, ds[i]? = some x → P i st → ∃ y st1, body x st = .ok y st1 ∧ match y with | none => P (i + 1) st1 | some d => ∃ acc, st1[r]? = some (.lst acc) ∧ acc.length < sizeLine ∧ P (i + 1) (st1.set r (.lst (acc ++ [d])))) (he : ∀ st, P ds.length st → Q (.ok (.ref r) st)) :
    Q (lcGo (.live W q) body r (Src.live W q).n 0 st) :=
  lc_rule ds P Q (fun i st hi p => by show (lstOf st q).map _ = _; rw [hs i st hi p]; rfl) hb he _ _ _ (by show ds.length ≤ W + 0; omega) (Nat.zero_le _) h0
theorem line_big {n : Nat} (h : n ≤ 16777215) : n < sizeLine := by rw [sizeLine_eq]; omega
theorem line_le {n : Nat} (h : n ≤ 16777216) : n ≤ sizeLine := by rw [sizeLine_eq]; omega
theorem rngD_len (lo : Int) (n : Nat) : (rngD lo n).length = n := by unfold rngD; rw [List.length_map, List.length_range]
end FL
namespace FL
open PySem PySem.Spec PyProof.Rows L2
/-! operations, where the store is known -/
theorem ix_list {st : Sto} {r : Nat} {ds : List D} {i : Int} {d : D} (h : lstOf st r = some ds) (hi : L2.atI ds i = some d) : orG gIx gIxD (.ref r) (.int i) st = some (d, st) := by
  have e : gIx (.ref r) (.int i) st = some (d, st) := by
    show ((lstOf st r).bind fun ds => (L2.atI ds i).map fun d => (d, st)) = _
    rw [h, Option.bind_some, hi]
    rfl
  unfold orG
  rw [e]
theorem ix_tupl {st : Sto} {ds : List D} {i : Int} {d : D} (hi : L2.atI ds i = some d) : orG gIx gIxD (.tup ds) (.int i) st = some (d, st) := by
  unfold orG gIx
  dsimp only
  rw [hi]
  rfl
theorem ix_dic {st : Sto} {r : Nat} {kvs : List (Key × D)} {k d : D} {kk : Key} (h : st[r]? = some (.dic kvs)) (hk : k.key = some kk) (hv : dval kvs kk = some d) : orG gIx gIxD (.ref r) k st = some (d, st) := by
  have e : gIx (.ref r) k st = none := by
    have e1 : lstOf st r = none := by unfold lstOf; rw [h]
    cases k with
    | int i =>
      show ((lstOf st r).bind fun ds => (L2.atI ds i).map fun d => (d, st)) = _
      rw [e1]
      rfl
    | _ => rfl
  unfold orG
  rw [e]
  unfold gIxD
  dsimp only
  rw [h, hk]
  dsimp only
  rw [hv]
  rfl
theorem app_lst {st : Sto} {r : Nat} {xs : List D} {d : D} (h : st[r]? = some (.lst xs)) (hl : xs.length < sizeLine) : gAppend (.ref r) [d] st = some (.non, st.set r (.lst (xs ++ [d]))) := by
  unfold gAppend
  dsimp only
  rw [h]
  dsimp only
  rw [if_pos hl]
theorem rev_lst {st : Sto} {r : Nat} {xs : List D} (h : st[r]? = some (.lst xs)) : gReverse (.ref r) [] st = some (.non, st.set r (.lst xs.reverse)) := by
  unfold gReverse
  dsimp only
  rw [h]
theorem ty_lst {st : Sto} {r : Nat} {xs : List D} (h : st[r]? = some (.lst xs)) : tyD "list" (.ref r) st = true := by
  unfold tyD
  dsimp only
  rw [h]
  rfl
theorem ty_dic {st : Sto} {r : Nat} {xs : List (Key × D)} (h : st[r]? = some (.dic xs)) : tyD "dict" (.ref r) st = true := by
  unfold tyD
  dsimp only
  rw [h]
  rfl
theorem in_dic {st : Sto} {r : Nat} {kvs : List (Key × D)} {k : D} {kk : Key} (h : st[r]? = some (.dic kvs)) (hk : k.key = some kk) : orG gInD gIn k (.ref r) st = some (.bl (dval kvs kk).isSome, st) := by
  unfold orG gInD
  dsimp only
  rw [h, hk]
theorem nin_dic {st : Sto} {r : Nat} {kvs : List (Key × D)} {k : D} {kk : Key} (h : st[r]? = some (.dic kvs)) (hk : k.key = some kk) : orG gNotInD gNotIn k (.ref r) st = some (.bl (!(dval kvs kk).isSome), st) := by
  unfold orG gNotInD
  dsimp only
  rw [h, hk]
theorem put_dic {st : Sto} {r : Nat} {kvs : List (Key × D)} {k d : D} {kk : Key} (h : st[r]? = some (.dic kvs)) (hk : k.key = some kk) (hl : kvs.length < sizeLine) : setSub (.ref r) k d st = some (st.set r (.dic (dput kvs kk d))) := by
  unfold setSub
  dsimp only
  rw [h]
  dsimp only
  rw [hk]
  dsimp only
  rw [if_pos hl]
theorem eq_int (i j : Int) (st : Sto) : gEq (.int i) (.int j) st = some (.bl (i == j), st) := by
  unfold gEq
  rfl
theorem ne_int (i j : Int) (st : Sto) : gNe (.int i) (.int j) st = some (.bl (!(i == j)), st) := by
  unfold gNe
  rfl
theorem add_int (i j : Int) (st : Sto) : gAdd (.int i) (.int j) st = some (.int (i + j), st) := rfl
theorem sub_int (i j : Int) (st : Sto) : gSub (.int i) (.int j) st = some (.int (i - j), st) := rfl
theorem mul_l {i j : Int} {st : Sto} (h : (decide (-(2 ^ 64) < i) && decide (i < 2 ^ 64)) = true) : gMul (.int i) (.int j) st = some (.int (i * j), st) := by
  unfold gMul
  dsimp only
  rw [if_pos]
  unfold mulOk
  rw [h, Bool.true_or]
theorem mul_r {i j : Int} {st : Sto} (h : (decide (-(2 ^ 64) < j) && decide (j < 2 ^ 64)) = true) : gMul (.int i) (.int j) st = some (.int (i * j), st) := by
  unfold gMul
  dsimp only
  rw [if_pos]
  unfold mulOk
  rw [h, Bool.or_true]
theorem mod_int {i j : Int} {st : Sto} (h : 0 < j) : gMod (.int i) (.int j) st = some (.int (i % j), st) := by
  unfold gMod
  exact if_pos h
theorem div_int {i j : Int} {st : Sto} (h : 0 < j) (h2 : j < 1073741824) : gDiv (.int i) (.int j) st = some (.int (i / j), st) := by
  unfold gDiv
  exact if_pos ⟨h, h2⟩
theorem cmp_int (p : Int → Int → Bool) (i j : Int) (st : Sto) : gCmp p (.int i) (.int j) st = some (.bl (p i j), st) := rfl
theorem isN_non (x : D) (st : Sto) : gIsN x .non st = some (.bl x.isN, st) := rfl
theorem notN_non (x : D) (st : Sto) : gNotN x .non st = some (.bl (!x.isN), st) := rfl
theorem len_lst {st : Sto} {r : Nat} {xs : List D} (h : st[r]? = some (.lst xs)) : gLen [.ref r] st = some (.int xs.length, st) := by
  unfold gLen
  dsimp only
  rw [h]
theorem len_scr {st : Sto} {r : Nat} {xs : List D} (h : st[r]? = some (.scr xs)) : gLen [.ref r] st = some (.int xs.length, st) := by
  unfold gLen
  dsimp only
  rw [h]
theorem len_dic {st : Sto} {r : Nat} {xs : List (Key × D)} (h : st[r]? = some (.dic xs)) : gLen [.ref r] st = some (.int xs.length, st) := by
  unfold gLen
  dsimp only
  rw [h]
theorem len_tup (xs : List D) (st : Sto) : gLen [.tup xs] st = some (.int xs.length, st) := rfl
theorem tr_lst {st : Sto} {r : Nat} {xs : List D} (h : st[r]? = some (.lst xs)) : D.truth st (.ref r) = some (!xs.isEmpty) := by
  unfold D.truth
  dsimp only
  rw [h]
theorem tr_bl (b : Bool) (st : Sto) : D.truth st (.bl b) = some b := rfl
/-! dicts -/
section
variable {κ : Type} [DecidableEq κ]
theorem dval_nil (k : κ) : dval ([] : List (κ × D)) k = none := rfl
theorem dval_cons (p : κ × D) (r : List (κ × D)) (k : κ) : dval (p :: r) k = if p.1 = k then some p.2 else dval r k := by
  unfold dval
  rw [List.find?_cons]
  by_cases h : p.1 = k
  · simp [h]
  · simp [h]
theorem dval_mem {kvs : List (κ × D)} {k : κ} : (dval kvs k).isSome = true ↔ k ∈ kvs.map (·.1) := by
  induction kvs with
  | nil => simp [dval_nil]
  | cons p r ih =>
    rw [dval_cons, List.map_cons, List.mem_cons]
    by_cases h : p.1 = k
    · simp [h]
    · rw [if_neg h, ih]
      constructor
      · exact .inr
      · rintro (e | e)
        · exact absurd e.symm h
        · exact e
theorem dval_map (kvs : List (κ × D)) (k j : κ) (v : D) : dval (kvs.map fun kv => if kv.1 = k then (kv.1, v) else kv) j = if j = k then (dval kvs j).map (fun _ => v) else dval kvs j := by
  induction kvs with
  | nil => split <;> rfl
  | cons p r ih =>
    rw [List.map_cons, dval_cons, dval_cons, ih]
    by_cases h1 : p.1 = k <;> by_cases h2 : p.1 = j
    · rw [if_pos h1]
      have : j = k := h2.symm.trans h1
      simp [h2, this]
    · have : ¬ j = k := fun e => h2 (h1.trans e.symm)
      have h3 : ¬ k = j := fun e => this e.symm
      simp [h1, h3, this]
    · have : ¬ j = k := fun e => h1 (h2.trans e)
      simp [h1, h2, this]
    · simp [h1, h2]
theorem dval_snoc (kvs : List (κ × D)) (k j : κ) (v : D) (h : dval kvs k = none) : dval (kvs ++ [(k, v)]) j = if j = k then some v else dval kvs j := by
  induction kvs with
  | nil =>
    rw [List.nil_append, dval_cons, dval_nil]
    by_cases e : j = k
    · simp [e]
    · have : ¬ k = j := fun z => e z.symm
      simp [e, this]
  | cons p r ih =>
    rw [dval_cons] at h
    split at h
    · cases h
    · rename_i hp
      rw [List.cons_append, dval_cons, ih h, dval_cons]
      by_cases e : p.1 = j
      · have : ¬ j = k := fun z => hp (e.trans z)
        simp [e, this]
      · simp [e]
theorem dput_old {kvs : List (κ × D)} {k : κ} (v : D) (h : k ∈ kvs.map (·.1)) : dput kvs k v = kvs.map fun kv => if kv.1 = k then (kv.1, v) else kv := by
  unfold dput
  rw [if_pos]
  rw [List.any_eq_true]
  obtain ⟨p, hp, e⟩ := List.mem_map.mp h
  exact ⟨p, hp, decide_eq_true e⟩
theorem dput_new {kvs : List (κ × D)} {k : κ} (v : D) (h : k ∉ kvs.map (·.1)) : dput kvs k v = kvs ++ [(k, v)] := by
  unfold dput
  rw [if_neg]
  rw [List.any_eq_true]
  rintro ⟨p, hp, e⟩
  exact h (List.mem_map.mpr ⟨p, hp, of_decide_eq_true e⟩)
theorem dval_put (kvs : List (κ × D)) (k j : κ) (v : D) : dval (dput kvs k v) j = if j = k then some v else dval kvs j := by
  by_cases h : k ∈ kvs.map (·.1)
  · rw [dput_old v h, dval_map]
    by_cases e : j = k
    · subst e
      have := dval_mem.mpr h
      rw [if_pos rfl, if_pos rfl]
      obtain ⟨z, hz⟩ := Option.isSome_iff_exists.mp this
      rw [hz]
      rfl
    · rw [if_neg e, if_neg e]
  · rw [dput_new v h, dval_snoc]
    cases q : dval kvs k with
    | none => rfl
    | some z =>
      have : (dval kvs k).isSome = true := by rw [q]; rfl
      exact absurd (dval_mem.mp this) h
theorem keys_put (kvs : List (κ × D)) (k : κ) (v : D) : (dput kvs k v).map (·.1) = if k ∈ kvs.map (·.1) then kvs.map (·.1) else kvs.map (·.1) ++ [k] := by
  by_cases h : k ∈ kvs.map (·.1)
  · rw [if_pos h, dput_old v h, List.map_map]
    apply List.map_congr_left
    intro p _
    show (if p.1 = k then (p.1, v) else p).1 = p.1
    split <;> rfl
  · rw [if_neg h, dput_new v h, List.map_append]
    rfl
end
theorem line0 : (0 ≤ sizeLine) = True := eq_true (line_le (by decide))
theorem line1 : (1 ≤ sizeLine) = True := eq_true (line_le (by decide))
theorem line2 : (2 ≤ sizeLine) = True := eq_true (line_le (by decide))
theorem line3 : (3 ≤ sizeLine) = True := eq_true (line_le (by decide))
theorem line4 : (4 ≤ sizeLine) = True := eq_true (line_le (by decide))
theorem line5 : (5 ≤ sizeLine) = True := eq_true (line_le (by decide))
theorem line6 : (6 ≤ sizeLine) = True := eq_true (line_le (by decide))
theorem line7 : (7 ≤ sizeLine) = True := eq_true (line_le (by decide))
theorem line8 : (8 ≤ sizeLine) = True := eq_true (line_le (by decide))
theorem line9 : (9 ≤ sizeLine) = True := eq_true (line_le (by decide))
end FL
set_option linter.all false
/-! M87: shortest rings, in plain Lean. -/
namespace M87
abbrev Ps := List (Int × Int)
/-- a way of n arrows -/
def Path (ps : Ps) : Nat → Int → Int → Prop
  | 0, a, b => a = b
  | n + 1, a, b => ∃ c, (a, c) ∈ ps ∧ Path ps n c b
theorem Path.snoc {ps : Ps} : ∀ {n : Nat} {a b : Int}, Path ps (n + 1) a b ↔ ∃ c, Path ps n a c ∧ (c, b) ∈ ps
  | 0, a, b => by
    constructor
    · rintro ⟨c, h, e⟩
      have e : c = b := e
      subst e
      exact ⟨a, rfl, h⟩
    · rintro ⟨c, e, h⟩
      have e : a = c := e
      subst e
      exact ⟨b, h, rfl⟩
  | n + 1, a, b => by
    constructor
    · rintro ⟨c, h, q⟩
      obtain ⟨d, q1, q2⟩ := Path.snoc.mp q
      exact ⟨d, ⟨c, h, q1⟩, q2⟩
    · rintro ⟨d, ⟨c, h, q1⟩, q2⟩
      exact ⟨c, h, Path.snoc.mpr ⟨d, q1, q2⟩⟩
theorem Path.rot {ps : Ps} {n : Nat} {a b : Int} (e : (a, b) ∈ ps) (h : Path ps n b a) : Path ps (n + 1) b b := Path.snoc.mpr ⟨a, h, e⟩
/-- lists without a thing twice -/
theorem nodup_le : ∀ {l m : List Int}, l.Nodup → (∀ x ∈ l, x ∈ m) → l.length ≤ m.length
  | [], m, _, _ => Nat.zero_le _
  | x :: l, m, nd, h => by
    have nd' := List.nodup_cons.mp nd
    have hx : x ∈ m := h x List.mem_cons_self
    have h2 : ∀ y ∈ l, y ∈ m.erase x := fun y hy => (List.mem_erase_of_ne (fun (e : y = x) => nd'.1 (e ▸ hy))).mpr (h y (List.mem_cons_of_mem _ hy))
    have ih := nodup_le nd'.2 h2
    rw [List.length_erase_of_mem hx] at ih
    have : 0 < m.length := List.length_pos_of_mem hx
    rw [List.length_cons]
    omega

/-! ### the law's way: how far it is from one number to another -/
def keys (far : Ps) : List Int := far.map (·.1)
def look (far : Ps) (x : Int) : Option Int := (far.find? fun p => decide (p.1 = x)).map (·.2)
theorem look_mem {far : Ps} {x d : Int} (h : look far x = some d) : (x, d) ∈ far := by
  unfold look at h
  cases q : far.find? fun p => decide (p.1 = x) with
  | none => rw [q] at h; cases h
  | some p =>
    rw [q] at h
    cases h
    have h1 := List.find?_some q
    have h2 := List.mem_of_find?_eq_some q
    have e : p.1 = x := of_decide_eq_true h1
    rw [← e]
    exact h2
theorem look_none {far : Ps} {x : Int} (h : x ∉ keys far) : look far x = none := by
  unfold look
  rw [List.find?_eq_none.mpr]
  · rfl
  · intro p hp z
    exact h (List.mem_map.mpr ⟨p, hp, of_decide_eq_true z⟩)
theorem look_some {far : Ps} {x : Int} (h : x ∈ keys far) : ∃ d, look far x = some d := by
  cases q : look far x with
  | some d => exact ⟨d, rfl⟩
  | none =>
    unfold look at q
    rw [Option.map_eq_none_iff, List.find?_eq_none] at q
    obtain ⟨p, hp, e⟩ := List.mem_map.mp h
    exact absurd (decide_eq_true e) (q p hp)
theorem look_snoc {far : Ps} {x y d : Int} (h : y ∉ keys far) : look (far ++ [(y, d)]) x = if x = y then some d else look far x := by
  unfold look
  rw [List.find?_append]
  by_cases e : x = y
  · subst e
    rw [if_pos rfl]
    have : far.find? (fun p => decide (p.1 = x)) = none := by
      rw [List.find?_eq_none]
      intro p hp z
      exact h (List.mem_map.mpr ⟨p, hp, of_decide_eq_true z⟩)
    rw [this]
    simp
  · rw [if_neg e]
    have : [((y, d) : Int × Int)].find? (fun p => decide (p.1 = x)) = none := by
      simp only [List.find?_singleton]
      rw [if_neg]
      intro z
      exact e (of_decide_eq_true z).symm
    rw [this, Option.or_none]
theorem keys_snoc (far : Ps) (p : Int × Int) : keys (far ++ [p]) = keys far ++ [p.1] := by simp [keys]

/-- one arrow is looked at, beside the number at hand -/
def sbP (x : Int) (d : Int) (far : Ps) (p : Int × Int) : Ps := if p.1 = x ∧ p.2 ∉ keys far then far ++ [(p.2, d + 1)] else far
/-- the row is the keys of far -/
def sbK (ps : Ps) (k : Nat) (far : Ps) : Ps := match far[k]? with
  | some q => ps.foldl (sbP q.1 q.2) far
  | none => far
def sbs (ps : Ps) : Nat → Nat → Ps → Ps
  | 0, _, far => far
  | n + 1, k, far => sbs ps n (k + 1) (sbK ps k far)
def stepsBack (ps : Ps) (first last : Int) : Int := (look (sbs ps 20 0 [(first, 0)]) last).getD 99

/-- what holds between the rows -/
structure Inv (ps : Ps) (s : Int) (k : Nat) (far : Ps) : Prop where
  nd : (keys far).Nodup
  head : far[0]? = some (s, 0)
  path : ∀ (i : Nat) x d, far[i]? = some (x, d) → 0 ≤ d ∧ d ≤ i ∧ Path ps d.toNat s x
  mono : ∀ (i j : Nat) x d y e, i ≤ j → far[i]? = some (x, d) → far[j]? = some (y, e) → d ≤ e
  near : ∀ (i : Nat) x d y e, far[k]? = some (x, d) → far[i]? = some (y, e) → e ≤ d + 1
  done : ∀ (i : Nat) x d y, i < k → far[i]? = some (x, d) → (x, y) ∈ ps → ∃ e, look far y = some e ∧ e ≤ d + 1
  sub : ∀ x ∈ (keys far).tail, x ∈ ps.map (·.2)
theorem get_of_mem {far : Ps} {p : Int × Int} (h : p ∈ far) : ∃ i : Nat, far[i]? = some p := List.getElem?_of_mem h
theorem look_get {far : Ps} {i : Nat} {x d : Int} (nd : (keys far).Nodup) (h : far[i]? = some (x, d)) : look far x = some d := by
  obtain ⟨e, he⟩ := look_some (far := far) (x := x) (List.mem_map.mpr ⟨(x, d), List.mem_of_getElem? h, rfl⟩)
  obtain ⟨j, hj⟩ := get_of_mem (look_mem he)
  have a1 : (keys far)[i]? = some x := by unfold keys; rw [List.getElem?_map, h]; rfl
  have a2 : (keys far)[j]? = some x := by unfold keys; rw [List.getElem?_map, hj]; rfl
  obtain ⟨b1, c1⟩ := List.getElem?_eq_some_iff.mp a1
  obtain ⟨b2, c2⟩ := List.getElem?_eq_some_iff.mp a2
  have : i = j := (List.getElem_inj nd).mp (c1.trans c2.symm)
  subst this
  rw [h] at hj
  cases hj
  exact he
/-- within a row: x at place k, its distance d -/
structure Mid (ps : Ps) (s : Int) (k : Nat) (x d : Int) (far : Ps) (seen : Ps) : Prop extends Inv ps s k far where
  at_ : far[k]? = some (x, d)
  now : ∀ p ∈ seen, p.1 = x → ∃ e, look far p.2 = some e ∧ e ≤ d + 1
theorem app_get {α : Type} {l : List α} {x y : α} {r : Nat} (h : (l ++ [x])[r]? = some y) : l[r]? = some y ∨ (r = l.length ∧ y = x) := by
  by_cases hr : r < l.length
  · rw [List.getElem?_append_left hr] at h
    exact .inl h
  · rw [List.getElem?_append_right (Nat.le_of_not_lt hr)] at h
    by_cases h0 : r - l.length = 0
    · rw [h0] at h
      exact .inr ⟨by omega, (Option.some.inj h).symm⟩
    · obtain ⟨k, hk⟩ : ∃ k, r - l.length = k + 1 := ⟨r - l.length - 1, by omega⟩
      rw [hk] at h
      simp at h
theorem get_app {α : Type} {l : List α} {x y : α} {r : Nat} (h : l[r]? = some y) : (l ++ [x])[r]? = some y := by
  rw [List.getElem?_append_left (List.getElem?_eq_some_iff.mp h).1]
  exact h
theorem mid_step {ps : Ps} {s : Int} {k : Nat} {x d : Int} {far seen : Ps} {p : Int × Int} (I : Mid ps s k x d far seen) (hp : p ∈ ps) : Mid ps s k x d (sbP x d far p) (seen ++ [p]) := by
  unfold sbP
  by_cases h : p.1 = x ∧ p.2 ∉ keys far
  · rw [if_pos h]
    obtain ⟨h1, h2⟩ := h
    have hk : k < far.length := (List.getElem?_eq_some_iff.mp I.at_).1
    have hd := I.path k x d I.at_
    have up : ∀ y e, look far y = some e → look (far ++ [(p.2, d + 1)]) y = some e := fun y e he => by
      rw [look_snoc h2, if_neg]
      · exact he
      · intro z
        rw [z] at he
        exact h2 (List.mem_map.mpr ⟨_, look_mem he, rfl⟩)
    have old : ∀ {i : Nat} {y e : Int}, far[i]? = some (y, e) → e ≤ d + 1 := fun {i y e} he => I.near i x d y e I.at_ he
    refine ⟨⟨?_, get_app I.head, fun i y e he => ?_, fun i j y e z f hij he hf => ?_, fun i y e z f he hf => ?_, fun i y e z hi he hz => ?_, fun y hy => ?_⟩, get_app I.at_, fun q hq e => ?_⟩
    · rw [keys_snoc]
      refine List.nodup_append.mpr ⟨I.nd, by simp, fun a ha b hb => ?_⟩
      rw [List.mem_singleton.mp hb]
      exact fun (e : a = p.2) => h2 (e ▸ ha)
    · rcases app_get he with he | ⟨e1, e2⟩
      · exact I.path i y e he
      · cases e2
        refine ⟨by omega, by omega, ?_⟩
        have : (d + 1).toNat = d.toNat + 1 := by omega
        rw [this]
        exact Path.snoc.mpr ⟨x, hd.2.2, by rw [← h1]; exact hp⟩
    · rcases app_get he with he | ⟨e1, e2⟩ <;> rcases app_get hf with hf | ⟨f1, f2⟩
      · exact I.mono i j y e z f hij he hf
      · cases f2
        exact old he
      · have := (List.getElem?_eq_some_iff.mp hf).1
        omega
      · cases e2; cases f2; omega
    · rcases app_get he with he | ⟨e1, e2⟩
      · rw [I.at_] at he
        cases he
        rcases app_get hf with hf | ⟨f1, f2⟩
        · exact old hf
        · cases f2; omega
      · omega
    · have he : far[i]? = some (y, e) := by
        rcases app_get he with he | ⟨e1, e2⟩
        · exact he
        · omega
      obtain ⟨f, h3, h4⟩ := I.done i y e z hi he hz
      exact ⟨f, up _ _ h3, h4⟩
    · rw [keys_snoc] at hy
      have hne : keys far ≠ [] := by
        intro z
        have := I.head
        unfold keys at z
        rw [List.map_eq_nil_iff.mp z] at this
        cases this
      rw [List.tail_append_of_ne_nil hne] at hy
      rcases List.mem_append.mp hy with hy | hy
      · exact I.sub y hy
      · rw [List.mem_singleton.mp hy]
        exact List.mem_map.mpr ⟨p, hp, rfl⟩
    · rcases List.mem_append.mp hq with hq | hq
      · obtain ⟨f, h3, h4⟩ := I.now q hq e
        exact ⟨f, up _ _ h3, h4⟩
      · rw [List.mem_singleton.mp hq]
        exact ⟨d + 1, by rw [look_snoc h2, if_pos rfl], Int.le_refl _⟩
  · rw [if_neg h]
    refine ⟨I.toInv, I.at_, fun q hq e => ?_⟩
    rcases List.mem_append.mp hq with hq | hq
    · exact I.now q hq e
    · rw [List.mem_singleton.mp hq] at e ⊢
      have h2 : p.2 ∈ keys far := by
        by_cases z : p.2 ∈ keys far
        · exact z
        · exact absurd ⟨e, z⟩ h
      obtain ⟨f, hf⟩ := look_some h2
      obtain ⟨i, hi⟩ := get_of_mem (look_mem hf)
      exact ⟨f, hf, I.near i x d p.2 f I.at_ hi⟩
theorem mid_fold {ps : Ps} {s : Int} {k : Nat} {x d : Int} : ∀ (rest : Ps) {far seen : Ps}, (∀ p ∈ rest, p ∈ ps) → Mid ps s k x d far seen → Mid ps s k x d (rest.foldl (sbP x d) far) (seen ++ rest)
  | [], far, seen, _, I => by
    rw [List.append_nil]
    exact I
  | p :: rest, far, seen, h, I => by
    rw [List.foldl_cons]
    have := mid_fold rest (fun q hq => h q (List.mem_cons_of_mem _ hq)) (mid_step I (h p List.mem_cons_self))
    rw [List.append_assoc] at this
    exact this
theorem inv_step {ps : Ps} {s : Int} {k : Nat} {far : Ps} (I : Inv ps s k far) : Inv ps s (k + 1) (sbK ps k far) := by
  unfold sbK
  cases q : far[k]? with
  | none =>
    show Inv ps s (k + 1) far
    refine ⟨I.nd, I.head, I.path, I.mono, fun i x d y e h1 h2 => ?_, fun i x d y hi h hy => ?_, I.sub⟩
    · have : far.length ≤ k := List.getElem?_eq_none_iff.mp q
      have := (List.getElem?_eq_some_iff.mp h1).1
      omega
    · have : far.length ≤ k := List.getElem?_eq_none_iff.mp q
      have := (List.getElem?_eq_some_iff.mp h).1
      exact I.done i x d y (by omega) h hy
  | some p =>
    obtain ⟨x, d⟩ := p
    show Inv ps s (k + 1) (ps.foldl (sbP x d) far)
    have M : Mid ps s k x d far [] := ⟨I, q, fun _ h => by cases h⟩
    have M := mid_fold ps (fun _ h => h) M
    rw [List.nil_append] at M
    refine ⟨M.nd, M.head, M.path, M.mono, fun i y e z f h1 h2 => ?_, fun i y e z hi h hz => ?_, M.sub⟩
    · have h3 := M.mono k (k + 1) x d y e (Nat.le_succ k) M.at_ h1
      have h4 := M.near i x d z f M.at_ h2
      omega
    · by_cases hk : i < k
      · exact M.done i y e z hk h hz
      · have : i = k := by omega
        subst this
        rw [M.at_] at h
        cases h
        exact M.now (x, z) hz rfl
theorem inv_all {ps : Ps} {s : Int} : ∀ (n k : Nat) (far : Ps), Inv ps s k far → Inv ps s (k + n) (sbs ps n k far)
  | 0, k, far, I => I
  | n + 1, k, far, I => by
    have := inv_all n (k + 1) _ (inv_step I)
    rw [show k + 1 + n = k + (n + 1) by omega] at this
    exact this
theorem inv_start (ps : Ps) (s : Int) : Inv ps s 0 [(s, 0)] := by
  have key : ∀ {i : Nat} {y e : Int}, ([(s, 0)] : Ps)[i]? = some (y, e) → i = 0 ∧ y = s ∧ e = 0 := fun {i y e} h => by
    cases i with
    | zero => cases h; exact ⟨rfl, rfl, rfl⟩
    | succ i => cases h
  refine ⟨by simp [keys], rfl, fun i x d h => ?_, fun i j x d y e _ h1 h2 => ?_, fun i x d y e h1 h2 => ?_, fun i x d y hi => absurd hi (Nat.not_lt_zero _), fun x hx => by cases hx⟩
  · obtain ⟨rfl, rfl, rfl⟩ := key h
    exact ⟨Int.le_refl _, Int.le_refl _, rfl⟩
  · obtain ⟨_, _, rfl⟩ := key h1
    obtain ⟨_, _, rfl⟩ := key h2
    exact Int.le_refl _
  · obtain ⟨_, _, rfl⟩ := key h1
    obtain ⟨_, _, rfl⟩ := key h2
    decide
/-- what the law's walk tells -/
theorem steps_ok {ps : Ps} (hl : ps.length ≤ 15) (s t : Int) : (∃ d : Nat, stepsBack ps s t = d ∧ d ≤ 15 ∧ Path ps d s t ∧ (∀ n, Path ps n s t → d ≤ n) ∧ ∀ N : List Int, s ∈ N → (∀ p ∈ ps, p.2 ∈ N) → d + 1 ≤ N.length) ∨ (stepsBack ps s t = 99 ∧ ∀ n, ¬ Path ps n s t) := by
  have I := inv_all 20 0 _ (inv_start ps s)
  generalize hf : sbs ps 20 0 [(s, 0)] = far at I
  have hlen : far.length ≤ 16 := by
    have nd : (keys far).tail.Nodup := I.nd.sublist (List.tail_sublist _)
    have h1 := nodup_le nd I.sub
    rw [List.length_tail, List.length_map] at h1
    unfold keys at h1
    rw [List.length_map] at h1
    omega
  have closed : ∀ n y, Path ps n s y → ∃ e, look far y = some e ∧ e ≤ n := by
    intro n
    induction n with
    | zero =>
      intro y h
      have h : s = y := h
      subst h
      exact ⟨0, look_get I.nd I.head, Int.le_refl _⟩
    | succ n ih =>
      intro y h
      obtain ⟨z, h1, h2⟩ := Path.snoc.mp h
      obtain ⟨e, h3, h4⟩ := ih z h1
      obtain ⟨i, hi⟩ := get_of_mem (look_mem h3)
      have hi2 := (List.getElem?_eq_some_iff.mp hi).1
      obtain ⟨f, h5, h6⟩ := I.done i z e y (by omega) hi h2
      exact ⟨f, h5, by omega⟩
  cases q : look far t with
  | none =>
    refine .inr ⟨by unfold stepsBack; rw [hf, q]; rfl, fun n h => ?_⟩
    obtain ⟨e, h1, _⟩ := closed n t h
    rw [q] at h1
    cases h1
  | some d =>
    obtain ⟨i, hi⟩ := get_of_mem (look_mem q)
    obtain ⟨h1, h2, h3⟩ := I.path i t d hi
    have hi2 := (List.getElem?_eq_some_iff.mp hi).1
    refine .inl ⟨d.toNat, by unfold stepsBack; rw [hf, q]; show d = _; omega, by omega, h3, fun n h => ?_, fun N hs hN => ?_⟩
    · obtain ⟨e, h4, h5⟩ := closed n t h
      rw [q] at h4
      cases h4
      omega
    · have h4 : (keys far).length ≤ N.length := by
        refine nodup_le I.nd fun x hx => ?_
        have hne : keys far ≠ [] := fun z => by rw [z] at hx; cases hx
        have e : keys far = (keys far).head hne :: (keys far).tail := (List.cons_head_tail hne).symm
        rw [e] at hx
        rcases List.mem_cons.mp hx with hx | hx
        · have : (keys far)[0]? = some s := by
            unfold keys
            rw [List.getElem?_map, I.head]
            rfl
          have h5 : (keys far).head hne = s := by
            have := List.head?_eq_getElem? (l := keys far)
            rw [List.head?_eq_some_head hne] at this
            have h6 : (keys far)[0]? = some s := by assumption
            rw [h6] at this
            exact Option.some.inj this
          rw [hx, h5]
          exact hs
        · obtain ⟨p, hp, e2⟩ := List.mem_map.mp (I.sub x hx)
          rw [← e2]
          exact hN p hp
      unfold keys at h4
      rw [List.length_map] at h4
      omega
end M87
set_option linter.all false
/-! M87b: the program's rings. -/
namespace M87
/-- the followers of a number -/
def adj (ps : Ps) (x : Int) : List Int := (ps.filter fun p => decide (p.1 = x)).map (·.2)
theorem mem_adj {ps : Ps} {x y : Int} : y ∈ adj ps x ↔ (x, y) ∈ ps := by
  unfold adj
  constructor
  · intro h
    obtain ⟨p, hp, e⟩ := List.mem_map.mp h
    obtain ⟨h1, h2⟩ := List.mem_filter.mp hp
    have h2 := of_decide_eq_true h2
    rw [← e, ← h2]
    exact h1
  · intro h
    exact List.mem_map.mpr ⟨(x, y), List.mem_filter.mpr ⟨h, decide_eq_true rfl⟩, rfl⟩
inductive Out (α β : Type) where
  | found (a : α)
  | on (b : β)
/-- the followers of one number -/
def goF (s num : Int) : List Int → Ps → List Int → Out Ps (Ps × List Int)
  | [], c, l => .on (c, l)
  | f :: fs, c, l => if f = s then .found c else if f ∈ keys c then goF s num fs c l else goF s num fs (c ++ [(f, num)]) (l ++ [f])
/-- a layer -/
def goN (A : Int → List Int) (s : Int) : List Int → Ps → List Int → Out (Ps × Int) (Ps × List Int)
  | [], c, l => .on (c, l)
  | x :: xs, c, l => match goF s x (A x) c l with
    | .found c' => .found (c', x)
    | .on (c', l') => goN A s xs c' l'
/-- back from a number: n steps -/
def chain (c : Ps) : Int → Nat → List Int
  | x, 0 => [x]
  | x, n + 1 => x :: chain c ((look c x).getD 0) n
def trace (c : Ps) (x : Int) (len : Nat) : List Int := (chain c x (len - 1)).reverse
/-- layer by layer: how many lengths are left, the length, what came from what, the layer -/
def goL (A : Int → List Int) (s : Int) : Nat → Nat → Ps → List Int → Option (List Int)
  | 0, _, _, _ => none
  | k + 1, len, c, la => match goN A s la c [] with
    | .found (c', x) => some (trace c' x len)
    | .on (c', l') => if l' = [] then none else goL A s k (len + 1) c' l'
def wayBack (A : Int → List Int) (s : Int) (most : Nat) : Option (List Int) := goL A s most 1 [(s, s)] [s]
def ringM (A : Int → List Int) : List Int → Nat → Option (List Int) → Option (List Int)
  | [], _, b => b
  | s :: ss, m, b => match wayBack A s m with
    | none => ringM A ss m b
    | some r => ringM A ss (r.length - 1) (some r)

/-- what came from what; lev: how far -/
structure Came (ps : Ps) (s : Int) (lev : Int → Nat) (top : Nat) (c : Ps) : Prop where
  nd : (keys c).Nodup
  start : look c s = some s
  lev0 : lev s = 0
  from_ : ∀ y p, look c y = some p → y ≠ s → (p, y) ∈ ps ∧ p ∈ keys c ∧ lev y = lev p + 1
  top_ : ∀ y ∈ keys c, lev y ≤ top
theorem look_keys {c : Ps} {x d : Int} (h : look c x = some d) : x ∈ keys c := List.mem_map.mpr ⟨(x, d), look_mem h, rfl⟩
theorem look_snoc_old {c : Ps} {x y d e : Int} (h : y ∉ keys c) (he : look c x = some e) : look (c ++ [(y, d)]) x = some e := by
  rw [look_snoc h, if_neg]
  · exact he
  · intro z
    rw [z] at he
    exact h (look_keys he)
theorem Came.snoc {ps : Ps} {s : Int} {lev : Int → Nat} {top : Nat} {c : Ps} {f num : Int} (I : Came ps s lev top c) (h : f ∉ keys c) (hn : num ∈ keys c) (ht : lev num < top) (e : (num, f) ∈ ps) :
    ∃ lev' : Int → Nat, Came ps s lev' top (c ++ [(f, num)]) ∧ lev' f = lev num + 1 ∧ ∀ y ∈ keys c, lev' y = lev y := by
  refine ⟨fun y => if y = f then lev num + 1 else lev y, ?_, if_pos rfl, fun y hy => if_neg fun (z : y = f) => h (z ▸ hy)⟩
  have old : ∀ y ∈ keys c, (if y = f then lev num + 1 else lev y) = lev y := fun y hy => if_neg fun (z : y = f) => h (z ▸ hy)
  have hs : s ∈ keys c := look_keys I.start
  refine ⟨?_, look_snoc_old h I.start, ?_, fun y p hy hne => ?_, fun y hy => ?_⟩
  · rw [keys_snoc]
    refine List.nodup_append.mpr ⟨I.nd, by simp, fun a ha b hb => ?_⟩
    rw [List.mem_singleton.mp hb]
    exact fun (e : a = f) => h (e ▸ ha)
  · show (if s = f then _ else _) = 0
    rw [old s hs]
    exact I.lev0
  · rw [look_snoc h] at hy
    split at hy
    · rename_i hyf
      cases hy
      subst hyf
      refine ⟨e, by rw [keys_snoc]; exact List.mem_append_left _ hn, ?_⟩
      show (if y = y then _ else _) = (if num = y then _ else _) + 1
      rw [if_pos rfl, old num hn]
    · rename_i hyf
      obtain ⟨h1, h2, h3⟩ := I.from_ y p hy hne
      refine ⟨h1, by rw [keys_snoc]; exact List.mem_append_left _ h2, ?_⟩
      show (if y = f then _ else _) = (if p = f then _ else _) + 1
      rw [if_neg hyf, old p h2]
      exact h3
  · rw [keys_snoc] at hy
    show (if y = f then _ else _) ≤ top
    rcases List.mem_append.mp hy with hy | hy
    · rw [old y hy]
      exact I.top_ y hy
    · rw [List.mem_singleton.mp hy]
      show (if f = f then _ else _) ≤ top
      rw [if_pos rfl]
      omega
/-- the way back -/
theorem chain_ok {ps : Ps} {s : Int} {lev : Int → Nat} {top : Nat} {c : Ps} (I : Came ps s lev top c) : ∀ (n : Nat) (x : Int), x ∈ keys c → lev x = n →
    (chain c x n).length = n + 1 ∧ (chain c x n)[n]? = some s ∧ ∀ (i : Nat) a b, (chain c x n)[i]? = some a → (chain c x n)[i + 1]? = some b → (b, a) ∈ ps ∧ look c a = some b
  | 0, x, hx, hl => by
    have e : x = s := by
      by_cases h : x = s
      · exact h
      · obtain ⟨p, hp⟩ := look_some hx
        have := (I.from_ x p hp h).2.2
        omega
    subst e
    exact ⟨rfl, rfl, fun i a b _ h => by cases h⟩
  | n + 1, x, hx, hl => by
    have hne : x ≠ s := fun e => by rw [e, I.lev0] at hl; omega
    obtain ⟨p, hp⟩ := look_some hx
    obtain ⟨h1, h2, h3⟩ := I.from_ x p hp hne
    have ep : (look c x).getD 0 = p := by rw [hp]; rfl
    obtain ⟨i1, i2, i3⟩ := chain_ok I n p h2 (by omega)
    have ec : chain c x (n + 1) = x :: chain c p n := by rw [chain, ep]
    rw [ec]
    refine ⟨by rw [List.length_cons, i1], by rw [List.getElem?_cons_succ]; exact i2, fun i a b ha hb => ?_⟩
    rw [List.getElem?_cons_succ] at hb
    cases i with
    | zero =>
      cases ha
      have e0 : (chain c p n)[0]? = some p := by cases n <;> rfl
      rw [e0] at hb
      cases hb
      exact ⟨h1, hp⟩
    | succ i =>
      rw [List.getElem?_cons_succ] at ha
      exact i3 i a b ha hb
/-- a ring: each leads to the next one, the last to the first -/
def Ring (ps : Ps) (r : List Int) : Prop := r ≠ [] ∧ (∀ (i : Nat) a b, r[i]? = some a → r[i + 1]? = some b → (a, b) ∈ ps) ∧ ∀ a b, r[r.length - 1]? = some a → r[0]? = some b → (a, b) ∈ ps
theorem trace_ring {ps : Ps} {s : Int} {lev : Int → Nat} {top : Nat} {c : Ps} (I : Came ps s lev top c) {len : Nat} {x : Int} (hx : x ∈ keys c) (hl : lev x = len - 1) (h1 : 1 ≤ len) (e : (x, s) ∈ ps) :
    (trace c x len).length = len ∧ Ring ps (trace c x len) := by
  obtain ⟨i1, i2, i3⟩ := chain_ok I (len - 1) x hx hl
  have L : (trace c x len).length = len := by
    unfold trace
    rw [List.length_reverse, i1]
    omega
  have g : ∀ i : Nat, i < len → (trace c x len)[i]? = (chain c x (len - 1))[len - 1 - i]? := fun i hi => by
    unfold trace
    rw [List.getElem?_reverse (by omega), i1]
    congr 1
  refine ⟨L, fun z => ?_, fun i a b ha hb => ?_, fun a b ha hb => ?_⟩
  · rw [z] at L
    simp at L
    omega
  · have hi : i + 1 < len := by
      have := (List.getElem?_eq_some_iff.mp hb).1
      omega
    rw [g i (by omega)] at ha
    rw [g (i + 1) hi] at hb
    have e1 : len - 1 - i = (len - 1 - (i + 1)) + 1 := by omega
    rw [e1] at ha
    exact (i3 _ b a hb ha).1
  · rw [L, g (len - 1) (by omega)] at ha
    rw [g 0 (by omega)] at hb
    rw [Nat.sub_self] at ha
    rw [Nat.sub_zero, i2] at hb
    cases hb
    have e0 : (chain c x (len - 1))[0]? = some x := by cases (len - 1) <;> rfl
    rw [e0] at ha
    cases ha
    exact e

/-- between two lengths: layer la at len - 1 -/
structure Lay (ps : Ps) (s : Int) (len : Nat) (lev : Int → Nat) (c : Ps) (la : List Int) : Prop where
  came : Came ps s lev (len - 1) c
  la_ : ∀ x, x ∈ la ↔ x ∈ keys c ∧ lev x = len - 1
  done : ∀ y ∈ keys c, lev y < len - 1 → ∀ z, (y, z) ∈ ps → z ≠ s ∧ z ∈ keys c ∧ lev z ≤ lev y + 1
/-- within a layer -/
structure In (ps : Ps) (s : Int) (len : Nat) (lev : Int → Nat) (c0 c : Ps) (seen l : List Int) : Prop where
  came : Came ps s lev len c
  ext : ∀ y ∈ keys c0, y ∈ keys c
  l_ : ∀ x, x ∈ l ↔ x ∈ keys c ∧ lev x = len
  old : ∀ y ∈ keys c, lev y < len → y ∈ keys c0
  done : ∀ y ∈ keys c, lev y < len - 1 → ∀ z, (y, z) ∈ ps → z ≠ s ∧ z ∈ keys c ∧ lev z ≤ lev y + 1
  now : ∀ y ∈ seen, ∀ z, (y, z) ∈ ps → z ≠ s ∧ z ∈ keys c ∧ lev z ≤ len
theorem goF_ok {ps : Ps} {s num : Int} {len : Nat} {c0 : Ps} {seen : List Int} (h1 : 1 ≤ len) : ∀ (fs : List Int) (lev : Int → Nat) (c : Ps) (l did : List Int), (∀ f ∈ fs, (num, f) ∈ ps) → (∀ f ∈ did, f ≠ s ∧ f ∈ keys c ∧ lev f ≤ len) →
    num ∈ keys c → lev num = len - 1 → In ps s len lev c0 c seen l →
    match goF s num fs c l with
    | .found c' => (num, s) ∈ ps ∧ ∃ lev' l', In ps s len lev' c0 c' seen l' ∧ num ∈ keys c' ∧ lev' num = len - 1
    | .on (c', l') => ∃ lev', In ps s len lev' c0 c' seen l' ∧ (∀ y ∈ keys c, y ∈ keys c' ∧ lev' y = lev y) ∧ ∀ f, f ∈ did ∨ f ∈ fs → f ≠ s ∧ f ∈ keys c' ∧ lev' f ≤ len
  | [], lev, c, l, did, hf, hd, hn, hl, I => ⟨lev, I, fun y hy => ⟨hy, rfl⟩, fun f h => h.elim (hd f) fun z => by cases z⟩
  | f :: fs, lev, c, l, did, hf, hd, hn, hl, I => by
    unfold goF
    by_cases e : f = s
    · rw [if_pos e]
      exact ⟨by rw [← e]; exact hf f List.mem_cons_self, lev, l, I, hn, hl⟩
    · rw [if_neg e]
      by_cases hk : f ∈ keys c
      · rw [if_pos hk]
        have ih := goF_ok h1 fs lev c l (did ++ [f]) (fun g hg => hf g (List.mem_cons_of_mem _ hg)) (fun g hg => by
          rcases List.mem_append.mp hg with hg | hg
          · exact hd g hg
          · rw [List.mem_singleton.mp hg]
            exact ⟨e, hk, I.came.top_ f hk⟩) hn hl I
        cases q : goF s num fs c l with
        | found c' => rw [q] at ih; exact ih
        | on p =>
          rw [q] at ih
          obtain ⟨lev', a1, a2, a3⟩ := ih
          refine ⟨lev', a1, a2, fun g hg => a3 g ?_⟩
          rcases hg with hg | hg
          · exact .inl (List.mem_append_left _ hg)
          · rcases List.mem_cons.mp hg with hg | hg
            · exact .inl (List.mem_append_right _ (List.mem_singleton.mpr hg))
            · exact .inr hg
      · rw [if_neg hk]
        obtain ⟨lev1, C1, b2, b3⟩ := I.came.snoc hk hn (by omega) (hf f List.mem_cons_self)
        have lf : lev1 f = len := by omega
        have mem1 : ∀ {y : Int}, y ∈ keys (c ++ [(f, num)]) ↔ y ∈ keys c ∨ y = f := fun {y} => by rw [keys_snoc, List.mem_append, List.mem_singleton]
        have I1 : In ps s len lev1 c0 (c ++ [(f, num)]) seen (l ++ [f]) := by
          refine ⟨C1, fun y hy => mem1.mpr (.inl (I.ext y hy)), fun x => ?_, fun y hy hly => ?_, fun y hy hly z hz => ?_, fun y hy z hz => ?_⟩
          · rw [List.mem_append, List.mem_singleton, mem1]
            constructor
            · rintro (h | h)
              · obtain ⟨h2, h3⟩ := (I.l_ x).mp h
                exact ⟨.inl h2, by rw [b3 x h2]; exact h3⟩
              · rw [h]
                exact ⟨.inr rfl, lf⟩
            · rintro ⟨h | h, h2⟩
              · rw [b3 x h] at h2
                exact .inl ((I.l_ x).mpr ⟨h, h2⟩)
              · exact .inr h
          · rcases mem1.mp hy with hy | hy
            · rw [b3 y hy] at hly
              exact I.old y hy hly
            · rw [hy, lf] at hly
              omega
          · rcases mem1.mp hy with hy | hy
            · rw [b3 y hy] at hly ⊢
              obtain ⟨d1, d2, d3⟩ := I.done y hy hly z hz
              exact ⟨d1, mem1.mpr (.inl d2), by rw [b3 z d2]; exact d3⟩
            · rw [hy, lf] at hly
              omega
          · obtain ⟨d1, d2, d3⟩ := I.now y hy z hz
            exact ⟨d1, mem1.mpr (.inl d2), by rw [b3 z d2]; exact d3⟩
        have ih := goF_ok h1 fs lev1 (c ++ [(f, num)]) (l ++ [f]) (did ++ [f]) (fun g hg => hf g (List.mem_cons_of_mem _ hg)) (fun g hg => by
          rcases List.mem_append.mp hg with hg | hg
          · obtain ⟨d1, d2, d3⟩ := hd g hg
            exact ⟨d1, mem1.mpr (.inl d2), by rw [b3 g d2]; exact d3⟩
          · rw [List.mem_singleton.mp hg]
            exact ⟨e, mem1.mpr (.inr rfl), Nat.le_of_eq lf⟩) (mem1.mpr (.inl hn)) (by rw [b3 num hn]; exact hl) I1
        cases q : goF s num fs (c ++ [(f, num)]) (l ++ [f]) with
        | found c' =>
          rw [q] at ih
          exact ih
        | on p =>
          rw [q] at ih
          obtain ⟨lev', a1, a2, a3⟩ := ih
          refine ⟨lev', a1, fun y hy => ?_, fun g hg => a3 g ?_⟩
          · obtain ⟨h2, h3⟩ := a2 y (mem1.mpr (.inl hy))
            exact ⟨h2, h3.trans (b3 y hy)⟩
          · rcases hg with hg | hg
            · exact .inl (List.mem_append_left _ hg)
            · rcases List.mem_cons.mp hg with hg | hg
              · exact .inl (List.mem_append_right _ (List.mem_singleton.mpr hg))
              · exact .inr hg
theorem goN_ok {ps : Ps} {s : Int} {len : Nat} {c0 : Ps} (h1 : 1 ≤ len) (A : Int → List Int) (hA : ∀ x y, y ∈ A x ↔ (x, y) ∈ ps) : ∀ (xs : List Int) (lev : Int → Nat) (c : Ps) (l seen : List Int), (∀ x ∈ xs, x ∈ keys c ∧ lev x = len - 1) → In ps s len lev c0 c seen l →
    match goN A s xs c l with
    | .found (c', x) => (x, s) ∈ ps ∧ ∃ lev' l' seen', In ps s len lev' c0 c' seen' l' ∧ x ∈ keys c' ∧ lev' x = len - 1
    | .on (c', l') => ∃ lev', In ps s len lev' c0 c' (seen ++ xs) l' ∧ ∀ y ∈ keys c, y ∈ keys c' ∧ lev' y = lev y
  | [], lev, c, l, seen, hx, I => ⟨lev, by rw [List.append_nil]; exact I, fun y hy => ⟨hy, rfl⟩⟩
  | x :: xs, lev, c, l, seen, hx, I => by
    unfold goN
    obtain ⟨hk, hl⟩ := hx x List.mem_cons_self
    have F := goF_ok h1 (A x) lev c l [] (fun f hf => (hA x f).mp hf) (fun f hf => by cases hf) hk hl I
    cases q : goF s x (A x) c l with
    | found c' =>
      rw [q] at F
      obtain ⟨a1, lev', l', a2, a3, a4⟩ := F
      exact ⟨a1, lev', l', seen, a2, a3, a4⟩
    | on p =>
      obtain ⟨c1, l1⟩ := p
      rw [q] at F
      obtain ⟨lev1, I1, a2, a3⟩ := F
      have I2 : In ps s len lev1 c0 c1 (seen ++ [x]) l1 := ⟨I1.came, I1.ext, I1.l_, I1.old, I1.done, fun y hy z hz => by
        rcases List.mem_append.mp hy with hy | hy
        · exact I1.now y hy z hz
        · rw [List.mem_singleton.mp hy] at hz
          exact a3 z (.inr ((hA x z).mpr hz))⟩
      have ih := goN_ok h1 A hA xs lev1 c1 l1 (seen ++ [x]) (fun y hy => by
        obtain ⟨b1, b2⟩ := hx y (List.mem_cons_of_mem _ hy)
        obtain ⟨b3, b4⟩ := a2 y b1
        exact ⟨b3, b4.trans b2⟩) I2
      show match goN A s xs c1 l1 with
        | .found (c', x) => _
        | .on (c', l') => _
      cases q2 : goN A s xs c1 l1 with
      | found p =>
        rw [q2] at ih
        exact ih
      | on p =>
        rw [q2] at ih
        obtain ⟨lev2, I3, a4⟩ := ih
        refine ⟨lev2, by rw [List.append_assoc] at I3; exact I3, fun y hy => ?_⟩
        obtain ⟨b1, b2⟩ := a2 y hy
        obtain ⟨b3, b4⟩ := a4 y b1
        exact ⟨b3, b4.trans b2⟩
/-- nothing shorter -/
theorem reach {ps : Ps} {s : Int} {lev : Int → Nat} {c : Ps} {b : Nat} (hs : s ∈ keys c) (l0 : lev s = 0) (done : ∀ y ∈ keys c, lev y < b → ∀ z, (y, z) ∈ ps → z ≠ s ∧ z ∈ keys c ∧ lev z ≤ lev y + 1) :
    ∀ (j : Nat) y, j ≤ b → Path ps j s y → y ∈ keys c ∧ lev y ≤ j ∧ (1 ≤ j → y ≠ s)
  | 0, y, _, h => by
    have h : s = y := h
    subst h
    exact ⟨hs, Nat.le_of_eq l0, fun z => absurd z (by decide)⟩
  | j + 1, y, hb, h => by
    obtain ⟨z, h1, h2⟩ := Path.snoc.mp h
    obtain ⟨a1, a2, _⟩ := reach hs l0 done j z (by omega) h1
    obtain ⟨b1, b2, b3⟩ := done z a1 (by omega) y h2
    exact ⟨b2, by omega, fun _ => b1⟩
theorem goL_ok {ps : Ps} {s : Int} (A : Int → List Int) (hA : ∀ x y, y ∈ A x ↔ (x, y) ∈ ps) : ∀ (k len : Nat) (lev : Int → Nat) (c : Ps) (la : List Int), 1 ≤ len → Lay ps s len lev c la →
    match goL A s k len c la with
    | none => ∀ n, 1 ≤ n → n ≤ len - 1 + k → ¬ Path ps n s s
    | some r => len ≤ r.length ∧ r.length ≤ len - 1 + k ∧ Ring ps r ∧ ∀ n, 1 ≤ n → n < r.length → ¬ Path ps n s s
  | 0, len, lev, c, la, h1, L => by
    show ∀ n, 1 ≤ n → n ≤ len - 1 + 0 → ¬ Path ps n s s
    intro n hn hb h
    exact (reach (look_keys L.came.start) L.came.lev0 L.done n s (by omega) h).2.2 hn rfl
  | k + 1, len, lev, c, la, h1, L => by
    unfold goL
    have hs : s ∈ keys c := look_keys L.came.start
    have I : In ps s len lev c c [] [] := ⟨⟨L.came.nd, L.came.start, L.came.lev0, L.came.from_, fun y hy => Nat.le_trans (L.came.top_ y hy) (Nat.sub_le _ _)⟩, fun y hy => hy, fun x => ⟨fun h => (by cases h), fun ⟨h2, h3⟩ => by
      have := L.came.top_ x h2
      omega⟩, fun y hy _ => hy, L.done, fun y hy => by cases hy⟩
    have F := goN_ok h1 A hA la lev c [] [] (fun x hx => (L.la_ x).mp hx) I
    have short : ∀ n, 1 ≤ n → n < len → ¬ Path ps n s s := fun n hn hb h => (reach hs L.came.lev0 L.done n s (by omega) h).2.2 hn rfl
    cases q : goN A s la c [] with
    | found p =>
      obtain ⟨c', x⟩ := p
      rw [q] at F
      obtain ⟨a1, lev', l', seen', I', a3, a4⟩ := F
      obtain ⟨t1, t2⟩ := trace_ring I'.came a3 a4 h1 a1
      show len ≤ (trace c' x len).length ∧ _
      rw [t1]
      exact ⟨Nat.le_refl _, by omega, t2, short⟩
    | on p =>
      obtain ⟨c', l'⟩ := p
      rw [q] at F
      obtain ⟨lev', I', a2⟩ := F
      rw [List.nil_append] at I'
      have hs' : s ∈ keys c' := look_keys I'.came.start
      have done' : ∀ y ∈ keys c', lev' y < len → ∀ z, (y, z) ∈ ps → z ≠ s ∧ z ∈ keys c' ∧ lev' z ≤ lev' y + 1 := fun y hy hl z hz => by
        by_cases e : lev' y < len - 1
        · exact I'.done y hy e z hz
        · have e2 : lev' y = len - 1 := by omega
          have hy0 := I'.old y hy hl
          have e3 : lev y = len - 1 := by rw [← (a2 y hy0).2]; exact e2
          obtain ⟨b1, b2, b3⟩ := I'.now y ((L.la_ y).mpr ⟨hy0, e3⟩) z hz
          exact ⟨b1, b2, by omega⟩
      show match (if l' = [] then none else goL A s k (len + 1) c' l') with | none => _ | some r => _
      by_cases e : l' = []
      · rw [if_pos e]
        show ∀ n, 1 ≤ n → n ≤ len - 1 + (k + 1) → ¬ Path ps n s s
        intro n hn _ h
        have lt : ∀ y ∈ keys c', lev' y < n + len := fun y hy => by
          have := I'.came.top_ y hy
          omega
        have low : ∀ y ∈ keys c', lev' y < len := fun y hy => by
          have h2 := I'.came.top_ y hy
          by_cases h3 : lev' y = len
          · have h4 := (I'.l_ y).mpr ⟨hy, h3⟩
            rw [e] at h4
            cases h4
          · omega
        exact (reach (b := n) hs' I'.came.lev0 (fun y hy _ z hz => done' y hy (low y hy) z hz) n s (Nat.le_refl _) h).2.2 hn rfl
      · rw [if_neg e]
        have L' : Lay ps s (len + 1) lev' c' l' := ⟨by rw [Nat.add_sub_cancel]; exact I'.came, fun x => by rw [Nat.add_sub_cancel]; exact I'.l_ x, fun y hy hl => done' y hy (by rw [Nat.add_sub_cancel] at hl; exact hl)⟩
        have ih := goL_ok A hA k (len + 1) lev' c' l' (by omega) L'
        cases q2 : goL A s k (len + 1) c' l' with
        | none =>
          rw [q2] at ih
          show ∀ n, 1 ≤ n → n ≤ len - 1 + (k + 1) → ¬ Path ps n s s
          exact fun n hn hb => ih n hn (by omega)
        | some r =>
          rw [q2] at ih
          obtain ⟨i1, i2, i3, i4⟩ := ih
          exact ⟨by omega, by omega, i3, i4⟩
theorem wayBack_ok {ps : Ps} (A : Int → List Int) (hA : ∀ x y, y ∈ A x ↔ (x, y) ∈ ps) (s : Int) (m : Nat) :
    match wayBack A s m with
    | none => ∀ n, 1 ≤ n → n ≤ m → ¬ Path ps n s s
    | some r => 1 ≤ r.length ∧ r.length ≤ m ∧ Ring ps r ∧ ∀ n, 1 ≤ n → n < r.length → ¬ Path ps n s s := by
  have L : Lay ps s 1 (fun _ => 0) [(s, s)] [s] := by
    have key : ∀ {y p : Int}, look [(s, s)] y = some p → y = s := fun {y p} h => by
      have := look_mem h
      cases List.mem_singleton.mp this
      rfl
    refine ⟨⟨by simp [keys], by simp [look], rfl, fun y p h hne => absurd (key h) hne, fun y hy => Nat.zero_le _⟩, fun x => ?_, fun y hy hl => absurd hl (Nat.not_lt_zero _)⟩
    simp [keys]
  have := goL_ok A hA m 1 _ _ _ (Nat.le_refl 1) L
  unfold wayBack
  cases q : goL A s m 1 [(s, s)] [s] with
  | none =>
    rw [q] at this
    exact fun n h1 h2 => this n h1 (by omega)
  | some r =>
    rw [q] at this
    obtain ⟨h1, h2, h3, h4⟩ := this
    exact ⟨h1, by omega, h3, h4⟩
theorem ringM_ok {ps : Ps} (A : Int → List Int) (hA : ∀ x y, y ∈ A x ↔ (x, y) ∈ ps) : ∀ (ss : List Int) (m : Nat) (b : Option (List Int)) (old : List Int), (∀ r, b = some r → r.length = m + 1 ∧ Ring ps r) → (∀ s ∈ old, ∀ n, 1 ≤ n → n ≤ m → ¬ Path ps n s s) →
    ∃ m', (∀ s, s ∈ old ∨ s ∈ ss → ∀ n, 1 ≤ n → n ≤ m' → ¬ Path ps n s s) ∧ m' ≤ m ∧ (ringM A ss m b = none → b = none ∧ m' = m) ∧ ∀ r, ringM A ss m b = some r → r.length = m' + 1 ∧ Ring ps r
  | [], m, b, old, hb, ho => ⟨m, fun s hs => hs.elim (ho s) (fun z => nomatch z), Nat.le_refl _, fun h => ⟨h, rfl⟩, hb⟩
  | s :: ss, m, b, old, hb, ho => by
    have W := wayBack_ok A hA s m
    unfold ringM
    cases q : wayBack A s m with
    | none =>
      rw [q] at W
      obtain ⟨m', h1, h2, h3, h4⟩ := ringM_ok A hA ss m b (old ++ [s]) hb (fun t ht => by
        rcases List.mem_append.mp ht with ht | ht
        · exact ho t ht
        · rw [List.mem_singleton.mp ht]
          exact W)
      refine ⟨m', fun t ht => h1 t ?_, h2, h3, h4⟩
      rcases ht with ht | ht
      · exact .inl (List.mem_append_left _ ht)
      · rcases List.mem_cons.mp ht with ht | ht
        · exact .inl (List.mem_append_right _ (List.mem_singleton.mpr ht))
        · exact .inr ht
    | some r =>
      rw [q] at W
      obtain ⟨w1, w2, w3, w4⟩ := W
      obtain ⟨m', h1, h2, h3, h4⟩ := ringM_ok A hA ss (r.length - 1) (some r) (old ++ [s]) (fun r' e => by cases e; exact ⟨by omega, w3⟩) (fun t ht => by
        rcases List.mem_append.mp ht with ht | ht
        · exact fun n hn hle => ho t ht n hn (by omega)
        · rw [List.mem_singleton.mp ht]
          exact fun n hn hle => w4 n hn (by omega))
      refine ⟨m', fun t ht => h1 t ?_, by omega, fun e => ?_, h4⟩
      · rcases ht with ht | ht
        · exact .inl (List.mem_append_left _ ht)
        · rcases List.mem_cons.mp ht with ht | ht
          · exact .inl (List.mem_append_right _ (List.mem_singleton.mpr ht))
          · exact .inr ht
      · have := (h3 e).1
        cases this
/-- the whole: the least ring by the law, and the program's -/
theorem ring_least {ps : Ps} (hl : ps.length ≤ 15) (A : Int → List Int) (hA : ∀ x y, y ∈ A x ↔ (x, y) ∈ ps) (N ss : List Int) (hss : ∀ x, x ∈ ss ↔ x ∈ N) (hN : ∀ p ∈ ps, p.1 ∈ N ∧ p.2 ∈ N) :
    ((∀ p ∈ ps, stepsBack ps p.2 p.1 = 99) ∧ ringM A ss N.length none = none) ∨
    ∃ (r : List Int), ringM A ss N.length none = some r ∧ Ring ps r ∧ (∃ p ∈ ps, stepsBack ps p.2 p.1 + 1 = (r.length : Int)) ∧ (∀ p ∈ ps, (r.length : Int) ≤ stepsBack ps p.2 p.1 + 1) ∧ r.length ≤ 16 := by
  obtain ⟨m', h1, h2, h3, h4⟩ := ringM_ok A hA ss N.length none [] (fun r e => by cases e) (fun s hs => by cases hs)
  have no : ∀ s n, s ∈ N → 1 ≤ n → n ≤ m' → ¬ Path ps n s s := fun s n hs => h1 s (.inr ((hss s).mpr hs)) n
  cases q : ringM A ss N.length none with
  | none =>
    obtain ⟨_, em⟩ := h3 q
    subst em
    refine .inl ⟨fun p hp => ?_, rfl⟩
    rcases steps_ok hl p.2 p.1 with ⟨d, e1, e2, e3, e4, e5⟩ | ⟨e1, _⟩
    · have h5 := e5 N (hN p hp).2 fun p hp => (hN p hp).2
      exact absurd (Path.rot (show (p.1, p.2) ∈ ps from hp) e3) (no p.2 (d + 1) (hN p hp).2 (by omega) h5)
    · exact e1
  | some r =>
    obtain ⟨r1, r3⟩ := h4 r q
    have r2 := r3
    obtain ⟨g1, g2, g3⟩ := r3
    have lo : ∀ p ∈ ps, (r.length : Int) ≤ stepsBack ps p.2 p.1 + 1 ∨ stepsBack ps p.2 p.1 = 99 := fun p hp => by
      rcases steps_ok hl p.2 p.1 with ⟨d, e1, e2, e3, e4, e5⟩ | ⟨e1, _⟩
      · left
        rw [e1]
        have h5 := Path.rot (show (p.1, p.2) ∈ ps from hp) e3
        by_cases h6 : d + 1 ≤ m'
        · exact absurd h5 (no p.2 (d + 1) (hN p hp).2 (by omega) h6)
        · omega
      · exact .inr e1
    -- the ring's own way
    have hpos : 0 < r.length := by omega
    obtain ⟨a, ha⟩ : ∃ a, r[r.length - 1]? = some a := ⟨_, List.getElem?_eq_getElem (by omega)⟩
    obtain ⟨b, hb⟩ : ∃ b, r[0]? = some b := ⟨_, List.getElem?_eq_getElem hpos⟩
    have hab := g3 a b ha hb
    have way : ∀ (i : Nat) x, r[i]? = some x → Path ps i b x := by
      intro i
      induction i with
      | zero =>
        intro x hx
        rw [hb] at hx
        cases hx
        rfl
      | succ i ih =>
        intro x hx
        have hi : i < r.length := by
          have := (List.getElem?_eq_some_iff.mp hx).1
          omega
        exact Path.snoc.mpr ⟨_, ih _ (List.getElem?_eq_getElem hi), g2 i _ x (List.getElem?_eq_getElem hi) hx⟩
    have hw := way _ a ha
    rcases steps_ok hl b a with ⟨d, e1, e2, e3, e4, e5⟩ | ⟨_, e2⟩
    · have h5 := e4 _ hw
      have h6 := lo (a, b) hab
      have h6 : (r.length : Int) ≤ stepsBack ps b a + 1 ∨ stepsBack ps b a = 99 := h6
      rw [e1] at h6
      have e9 : stepsBack ps b a + 1 = (r.length : Int) := by rw [e1]; omega
      have h16 : r.length ≤ 16 := by omega
      refine .inr ⟨r, rfl, r2, ⟨(a, b), hab, e9⟩, fun p hp => ?_, h16⟩
      rcases lo p hp with h | h
      · exact h
      · rw [h]
        omega
    · exact absurd hw (e2 _)
end M87
set_option Elab.async false
set_option linter.all false
set_option maxRecDepth 100000
set_option maxHeartbeats 1000000
namespace K87
open PySem PySem.Spec PyProof.Rows L2 FL

def topS (i : Nat) : Stmt := PySem.Challenge.pw_keptinstep_k87_shortest_rings.main.body.getD i (.Pass ⟨0, 0, 0, 0⟩)
/-- followers: 0 pairs, 1 told, 2 one, 3 other -/
def c_followers : Ss := (.cons (.set 1 .dnew) (.cons (.for_ (.tup (.cons (.name 2) (.cons (.name 3) .nil))) (.seq (.var 0)) (.cons (.expr (.meth .append (.meth .setd (.var 1) (.cons (.var 2) (.cons (.lst .nil) .nil))) (.cons (.var 3) .nil))) (.cons (.expr (.meth .setd (.var 1) (.cons (.var 3) (.cons (.lst .nil) .nil)))) .nil))) (.cons (.ret (.var 1)) .nil)))
def d_followers : Def := ⟨"followers", topS 1, ["pairs", "told", "one", "other"], ["pairs"], c_followers⟩
/-- way_back: 0 told, 1 start, 2 most, 3 came_from, 4 layer, 5 length, 6 later, 7 number, 8 follower -/
def c_way_back : Ss := (.cons (.set 3 (.dic1 (.var 1) (.var 1))) (.cons (.set 4 (.lst (.cons (.var 1) .nil))) (.cons (.for_ (.name 5) (.rng2 (.int 1) (.bin .add (.var 2) (.int 1))) (.cons (.set 6 (.lst .nil)) (.cons (.for_ (.name 7) (.seq (.var 4)) (.cons (.for_ (.name 8) (.seq (.ix (.var 0) (.var 7))) (.cons (.ite (.cmp .eq (.var 8) (.var 1)) (.cons (.ret (.call 2 (.cons (.var 3) (.cons (.var 7) (.cons (.var 5) .nil))))) .nil) .nil) (.cons (.ite (.cmp .nin (.var 8) (.var 3)) (.cons (.asg (.sub (.var 3) (.var 8)) (.var 7)) (.cons (.expr (.meth .append (.var 6) (.cons (.var 8) .nil))) .nil)) .nil) .nil))) .nil)) (.cons (.ite (.not (.val (.var 6))) (.cons (.ret .non) .nil) .nil) (.cons (.set 4 (.var 6)) .nil))))) (.cons (.ret .non) .nil))))
def d_way_back : Def := ⟨"way_back", topS 2, ["told", "start", "most", "came_from", "layer", "length", "later", "number", "follower"], ["told", "start", "most"], c_way_back⟩
/-- traced: 0 came_from, 1 last, 2 length, 3 made, 4 _ -/
def c_traced : Ss := (.cons (.set 3 (.lst (.cons (.var 1) .nil))) (.cons (.for_ (.name 4) (.rng1 (.bin .sub (.var 2) (.int 1))) (.cons (.expr (.meth .append (.var 3) (.cons (.ix (.var 0) (.ix (.var 3) (.neg (.int 1)))) .nil))) .nil)) (.cons (.expr (.meth .reverse (.var 3) .nil)) (.cons (.ret (.var 3)) .nil))))
def d_traced : Def := ⟨"traced", topS 3, ["came_from", "last", "length", "made", "_"], ["came_from", "last", "length"], c_traced⟩
/-- ring_in: 0 pairs, 1 told, 2 best, 3 most, 4 start, 5 ring -/
def c_ring_in : Ss := (.cons (.set 1 (.call 0 (.cons (.var 0) .nil))) (.cons (.set 2 .non) (.cons (.set 3 (.blt .len (.cons (.var 1) .nil))) (.cons (.for_ (.name 4) (.seq (.blt .sorted (.cons (.var 1) .nil))) (.cons (.set 5 (.call 1 (.cons (.var 1) (.cons (.var 4) (.cons (.var 3) .nil))))) (.cons (.ite (.cmp .notN (.var 5) .non) (.cons (.set 2 (.var 5)) (.cons (.set 3 (.bin .sub (.blt .len (.cons (.var 5) .nil)) (.int 1))) .nil)) .nil) .nil))) (.cons (.ite (.cmp .isN (.var 2) .non) (.cons (.ret .non) .nil) .nil) (.cons (.ret (.blt .tuple (.cons (.var 2) .nil))) .nil))))))
def d_ring_in : Def := ⟨"ring_in", topS 4, ["pairs", "told", "best", "most", "start", "ring"], ["pairs"], c_ring_in⟩
/-- ring_of: 0 pairs -/
def c_ring_of : Ss := (.cons (.ret (.call 3 (.cons (.var 0) .nil))) .nil)
def d_ring_of : Def := ⟨"ring_of", topS 6, ["pairs"], ["pairs"], c_ring_of⟩
/-- _law_draws: 0 script, 1 at, 2 limits, 3 cell, 4 state, 5 left, 6 out, 7 limit -/
def c_law_draws : Ss := (.cons (.set 3 (.bin .add (.bin .mul (.int 977) (.var 1)) (.bin .mul (.int 31) (.blt .len (.cons (.var 0) .nil))))) (.cons (.ite (.cmp .lt (.var 1) (.blt .len (.cons (.var 0) .nil))) (.cons (.set 3 (.bin .add (.bin .mul (.int 2) (.blt .abs (.cons (.ix (.var 0) (.var 1)) .nil))) (.blt .int (.cons (.cmp .lt (.ix (.var 0) (.var 1)) (.int 0)) .nil)))) .nil) .nil) (.cons (.set 4 (.bin .mod (.bin .add (.bin .add (.bin .mul (.blt .int (.cons (.var 3) .nil)) (.int 48271)) (.bin .mul (.var 1) (.int 69621))) (.int 12345)) (.int 2147483647))) (.cons (.set 5 (.int 0)) (.cons (.ite (.cmp .ge (.var 3) (.bin .pow (.int 10) (.int 18))) (.cons (.set 5 (.var 3)) .nil) .nil) (.cons (.set 6 (.lst .nil)) (.cons (.for_ (.name 7) (.seq (.var 2)) (.cons (.ite (.cmp .gt (.var 5) (.int 0)) (.cons (.expr (.meth .append (.var 6) (.cons (.bin .mod (.blt .int (.cons (.var 5) .nil)) (.var 7)) .nil))) (.cons (.set 5 (.bin .div (.var 5) (.var 7))) .nil)) (.cons (.set 4 (.bin .mod (.bin .add (.bin .mul (.var 4) (.int 16807)) (.int 7919)) (.int 2147483647))) (.cons (.expr (.meth .append (.var 6) (.cons (.bin .mod (.bin .div (.var 4) (.int 131)) (.var 7)) .nil))) .nil))) .nil)) (.cons (.ret (.var 6)) .nil))))))))
def d_law_draws : Def := ⟨"_law_draws", topS 8, ["script", "at", "limits", "cell", "state", "left", "out", "limit"], ["script", "at", "limits"], c_law_draws⟩
/-- _law_same: 0 told, 1 due, 2 k -/
def c_law_same : Ss := (.cons (.ite (.cmp .isN (.var 1) .non) (.cons (.ret (.cmp .isN (.var 0) .non)) .nil) .nil) (.cons (.ite (.val (.isi (.var 1) "tuple")) (.cons (.ite (.or (.cons (.not (.val (.isi (.var 0) "tuple"))) (.one (.cmp .ne (.blt .len (.cons (.var 0) .nil)) (.blt .len (.cons (.var 1) .nil)))))) (.cons (.ret (.bl false)) .nil) .nil) (.cons (.ret (.blt .all (.cons (.lc (.call 6 (.cons (.ix (.var 0) (.var 2)) (.cons (.ix (.var 1) (.var 2)) .nil))) (.name 2) (.rng1 (.blt .len (.cons (.var 1) .nil))) .no [("k", 2)]) .nil))) .nil)) .nil) (.cons (.ite (.val (.isi (.var 1) "str")) (.cons (.ret (.and2 (.isi (.var 0) "str") (.one (.cmp .eq (.var 0) (.var 1))))) .nil) .nil) (.cons (.ite (.val (.isi (.var 1) "bool")) (.cons (.ret (.and2 (.isi (.var 0) "bool") (.one (.cmp .eq (.var 0) (.var 1))))) .nil) .nil) (.cons (.ret (.and2 (.isi (.var 0) "int") (.and2 (.notv (.isi (.var 0) "bool")) (.one (.cmp .eq (.var 0) (.var 1)))))) .nil)))))
def d_law_same : Def := ⟨"_law_same", topS 9, ["told", "due", "k"], ["told", "due"], c_law_same⟩
/-- _law_steps_back: 0 pairs, 1 first, 2 last, 3 row, 4 far, 5 k, 6 pair -/
def c_law_steps_back : Ss := (.cons (.set 3 (.lst (.cons (.var 1) .nil))) (.cons (.set 4 (.dic1 (.var 1) (.int 0))) (.cons (.for_ (.name 5) (.rng1 (.int 20)) (.cons (.ite (.cmp .lt (.var 5) (.blt .len (.cons (.var 3) .nil))) (.cons (.for_ (.name 6) (.seq (.var 0)) (.cons (.ite (.and (.cons (.cmp .eq (.ix (.var 6) (.int 0)) (.ix (.var 3) (.var 5))) (.one (.cmp .nin (.ix (.var 6) (.int 1)) (.var 4))))) (.cons (.asg (.sub (.var 4) (.ix (.var 6) (.int 1))) (.bin .add (.ix (.var 4) (.ix (.var 3) (.var 5))) (.int 1))) (.cons (.expr (.meth .append (.var 3) (.cons (.ix (.var 6) (.int 1)) .nil))) .nil)) .nil) .nil)) .nil) .nil) .nil)) (.cons (.ret (.meth .get2 (.var 4) (.cons (.var 2) (.cons (.int 99) .nil)))) .nil))))
def d_law_steps_back : Def := ⟨"_law_steps_back", topS 10, ["pairs", "first", "last", "row", "far", "k", "pair"], ["pairs", "first", "last"], c_law_steps_back⟩
/-- law: 0 script, 1 pick, 2 worth, 3 many, 4 cells, 5 pairs, 6 least, 7 told, 8 k, 9 pair, 10 n -/
def c_law : Ss := (.cons (.set 1 (.call 5 (.cons (.var 0) (.cons (.int 0) (.cons (.lst (.cons (.int 15) (.cons (.int 8) (.cons (.int 3) (.cons (.int 1000) .nil))))) .nil))))) (.cons (.set 2 (.lst (.cons (.int 0) (.cons (.int 1) (.cons (.int 2) (.cons (.bin .add (.bin .pow (.int 10) (.int 20)) (.int 1)) (.cons (.int 7) (.cons (.bin .pow (.int 10) (.int 20)) (.cons (.int 3) (.cons (.int 12) (.cons (.ix (.var 1) (.int 3)) .nil))))))))))) (.cons (.set 3 (.bin .add (.int 2) (.ix (.var 1) (.int 1)))) (.cons (.set 4 (.call 5 (.cons (.var 0) (.cons (.int 1) (.cons (.bin .mul (.lst (.cons (.int 5040) (.cons (.int 5040) .nil))) (.int 14)) .nil))))) (.cons (.set 5 (.lc (.tup (.cons (.ix (.var 2) (.bin .mod (.ix (.var 4) (.bin .mul (.int 2) (.var 8))) (.var 3))) (.cons (.ix (.var 2) (.bin .mod (.ix (.var 4) (.bin .add (.bin .mul (.int 2) (.var 8)) (.int 1))) (.var 3))) .nil))) (.name 8) (.rng1 (.ix (.var 1) (.int 0))) .no [("k", 8)])) (.cons (.ite (.cmp .eq (.ix (.var 1) (.int 2)) (.int 1)) (.cons (.set 5 (.lc (.tup (.cons (.ix (.var 2) (.bin .mod (.var 8) (.var 3))) (.cons (.ix (.var 2) (.bin .mod (.bin .add (.var 8) (.int 1)) (.var 3))) .nil))) (.name 8) (.rng1 (.ix (.var 1) (.int 0))) .no [("k", 8)])) .nil) .nil) (.cons (.ite (.and (.cons (.cmp .eq (.ix (.var 1) (.int 2)) (.int 2)) (.one (.cmp .gt (.ix (.var 1) (.int 0)) (.int 1))))) (.cons (.set 5 (.bin .add (.var 5) (.sl (.var 5) .no (.yes (.int 1))))) .nil) .nil) (.cons (.set 6 (.blt .min1 (.cons (.bin .add (.lst (.cons (.int 99) .nil)) (.lc (.bin .add (.call 7 (.cons (.var 5) (.cons (.ix (.var 9) (.int 1)) (.cons (.ix (.var 9) (.int 0)) .nil)))) (.int 1)) (.name 9) (.seq (.var 5)) .no [("pair", 9)])) .nil))) (.cons (.set 7 (.call 4 (.cons (.blt .tuple (.cons (.var 5) .nil)) .nil))) (.cons (.ite (.cmp .eq (.var 6) (.int 99)) (.cons (.ret (.and2 (.cmp .isN (.var 7) .non) (.one (.cmp .isN (.call 4 (.cons (.blt .tuple (.cons (.var 5) .nil)) .nil)) .non)))) .nil) .nil) (.cons (.ite (.or (.cons (.not (.val (.isi (.var 7) "tuple"))) (.one (.cmp .ne (.blt .len (.cons (.var 7) .nil)) (.var 6))))) (.cons (.ret (.bl false)) .nil) .nil) (.cons (.ite (.not (.val (.blt .all (.cons (.lc (.and2 (.isi (.var 10) "int") (.one (.notv (.isi (.var 10) "bool")))) (.name 10) (.seq (.var 7)) .no [("n", 10)]) .nil)))) (.cons (.ret (.bl false)) .nil) .nil) (.cons (.ite (.not (.val (.blt .all (.cons (.lc (.cmp .inn (.tup (.cons (.ix (.var 7) (.bin .sub (.var 8) (.int 1))) (.cons (.ix (.var 7) (.var 8)) .nil))) (.var 5)) (.name 8) (.rng1 (.var 6)) .no [("k", 8)]) .nil)))) (.cons (.ret (.bl false)) .nil) .nil) (.cons (.ret (.call 6 (.cons (.call 4 (.cons (.blt .tuple (.cons (.blt .list (.cons (.var 5) .nil)) .nil)) .nil)) (.cons (.var 7) .nil)))) .nil))))))))))))))
def d_law : Def := ⟨"law", topS 11, ["script", "pick", "worth", "many", "cells", "pairs", "least", "told", "k", "pair", "n"], ["script"], c_law⟩
def tab : List Def := [d_followers, d_way_back, d_traced, d_ring_in, d_ring_of, d_law_draws, d_law_same, d_law_steps_back, d_law]
def free : List Str := ["abs", "all", "bool", "int", "isinstance", "len", "list", "min", "range", "sorted", "str", "tuple"]

theorem chk : tab.all (kDef tab free) = true := by decide +kernel
end K87
set_option Elab.async false
set_option linter.all false
set_option maxRecDepth 100000
set_option maxHeartbeats 1000000
namespace K87
open PySem PySem.Spec PyProof.Rows L2 FL M87
local macro_rules | `(tactic| walk_at "ev") => `(tactic| simp (config := {failIfUnchanged := false}) only [evSs_c, evSs_n, evS, evE, evEs, evEo, evT, evAnd, evOr, evIt, evTg, evTgs, evCo, bind_okR, toS_okR, noX_okR, seq_nx, seq_ret, seq_brk, seq_cnt, turn_nx, turn_cnt, turn_ret, turn_brk, fin_ret, fin_nx, ofO_some, br_t, br_f,
  List.getElem?_cons_zero, List.getElem?_cons_succ, List.set_cons_zero, List.set_cons_succ, Bop.g, Cop.g, Blt.g, Bm.g, get_app0, get_appN, set_app0, set_appN, List.length_append, List.length_cons, List.length_nil, List.append_assoc, List.cons_append, List.nil_append, Nat.zero_add, Nat.add_zero, line0, line1, line2, line3, line4, line5, line6, line7, line8, line9, if_true, FL.eq_int, FL.ne_int, FL.add_int, FL.sub_int, cmp_int, isN_non, notN_non, tr_bl, len_tup, D.isN, Bool.not_true, Bool.not_false])
local macro_rules | `(tactic| walk_at "in") => `(tactic| simp only [startE, List.map_cons, List.map_nil, List.length_cons, List.length_nil, List.replicate, List.cons_append, List.nil_append, Nat.reduceSub, Nat.zero_add, Nat.reduceAdd])
theorem ty_app {st : Sto} {r : Nat} {xs : List D} (h : st[r]? = some (.lst xs)) : tyD Bm.append.ty (.ref r) st = true := ty_lst h
theorem ty_rev {st : Sto} {r : Nat} {xs : List D} (h : st[r]? = some (.lst xs)) : tyD Bm.reverse.ty (.ref r) st = true := ty_lst h
theorem ty_get2 {st : Sto} {r : Nat} {xs : List (Key × D)} (h : st[r]? = some (.dic xs)) : tyD Bm.get2.ty (.ref r) st = true := ty_dic h
theorem ty_setd {st : Sto} {r : Nat} {xs : List (Key × D)} (h : st[r]? = some (.dic xs)) : tyD Bm.setd.ty (.ref r) st = true := ty_dic h
/-- pairs of ints as a dict -/
def dicI (c : Ps) : List (Key × D) := c.map fun p => (.inl p.1, .int p.2)
theorem dicI_val (c : Ps) (x : Int) : dval (dicI c) (.inl x) = (look c x).map D.int := by
  induction c with
  | nil => rfl
  | cons p r ih =>
    show dval ((.inl p.1, .int p.2) :: dicI r) _ = _
    rw [dval_cons, ih]
    unfold look
    rw [List.find?_cons]
    by_cases h : p.1 = x
    · simp [h]
    · have : ¬ (Sum.inl p.1 : Key) = Sum.inl x := fun e => h (Sum.inl.inj e)
      simp [h, this]
theorem dicI_keys (c : Ps) : (dicI c).map (·.1) = (keys c).map Sum.inl := by
  unfold dicI keys
  rw [List.map_map, List.map_map]
  rfl
theorem dicI_some (c : Ps) (x : Int) : (dval (dicI c) (.inl x)).isSome = decide (x ∈ keys c) := by
  rw [dicI_val, Option.isSome_map]
  by_cases h : x ∈ keys c
  · obtain ⟨d, e⟩ := look_some h
    rw [e]
    simp [h]
  · rw [look_none h]
    simp [h]
theorem dicI_put {c : Ps} {x : Int} (v : Int) (h : x ∉ keys c) : dput (dicI c) (.inl x) (.int v) = dicI (c ++ [(x, v)]) := by
  rw [dput_new]
  · unfold dicI
    rw [List.map_append]
    rfl
  · rw [dicI_keys]
    intro z
    obtain ⟨y, hy, e⟩ := List.mem_map.mp z
    cases e
    exact h hy
def intL (l : List Int) : O := .lst (l.map .int)
theorem atI_last {α : Type} (l : List α) (x : α) : L2.atI (l ++ [x]) (-1) = some x := L2.atI_last l x
theorem atI_get {α : Type} {l : List α} {i : Nat} {x : α} (h : l[i]? = some x) : L2.atI l (i : Int) = some x := L2.atI_nat h

/-! ### traced -/
theorem take_snoc {α : Type} {l : List α} {i : Nat} {x : α} (h : l[i]? = some x) : l.take (i + 1) = l.take i ++ [x] := by
  rw [List.take_add_one, h]
  rfl
theorem traced_ok (W n : Nat) {st : Sto} {rc : Nat} {c : Ps} {x : Int} {k : Nat} (hc : st[rc]? = some (.dic (dicI c))) (hk : k ≤ 1000)
    (hl : (chain c x k).length = k + 1) (hs : ∀ (i : Nat) a b, (chain c x k)[i]? = some a → (chain c x k)[i + 1]? = some b → look c a = some b) :
    runF tab W (n + 1) 2 [.ref rc, .int x, .int ((k + 1 : Nat) : Int)] st = .ok (.ref st.length) (st ++ [intL (trace c x (k + 1))]) := by
  show (evSs ⟨runF tab W n, W⟩ c_traced (startE 5 [.ref rc, .int x, .int ((k + 1 : Nat) : Int)]) st).fin = _
  unfold c_traced
  walk_at "in"
  walk_at "ev"
  have e1 : ((k + 1 : Nat) : Int) - 1 = (k : Int) := by omega
  rw [e1]
  rw [if_pos ⟨by omega, by omega⟩]
  walk_at "ev"
  have e2 : (k : Int).toNat = k := by omega
  rw [e2]
  have c0 : (chain c x k)[0]? = some x := by cases k <;> rfl
  refine for_items (rngD 0 k) (fun i env s => ∃ y, env = [some (.ref rc), some (.int x), some (.int ((k + 1 : Nat) : Int)), some (.ref st.length), y] ∧ s = st ++ [intL ((chain c x k).take (i + 1))]) (fun r => (r.seq _).fin = _) ⟨none, rfl, ?_⟩ ?_ ?_
  · rw [take_snoc c0]
    rfl
  · rintro i z env s hi ⟨y, rfl, rfl⟩
    rw [rngD_get] at hi
    split at hi
    · rename_i hik
      cases hi
      walk_at "ev"
      have h0 : (st ++ [intL ((chain c x k).take (i + 1))])[st.length]? = some (.lst (((chain c x k).take (i + 1)).map .int)) := by rw [get_app0]; rfl
      rw [if_pos (ty_app h0)]
      have g1 : (chain c x k)[i]? = some (chain c x k)[i] := List.getElem?_eq_getElem (by omega)
      have g2 : (chain c x k)[i + 1]? = some (chain c x k)[i + 1] := List.getElem?_eq_getElem (by omega)
      have hlast : L2.atI (((chain c x k).take (i + 1)).map D.int) (-1) = some (.int (chain c x k)[i]) := by
        rw [take_snoc g1, List.map_append]
        exact atI_last _ _
      have hlook := hs i _ _ g1 g2
      walk_at "ev"
      rw [ix_list (lstOf_lst h0) hlast]
      walk_at "ev"
      rw [ix_dic (get_old hc) (k := .int (chain c x k)[i]) rfl (by rw [dicI_val, hlook]; rfl)]
      walk_at "ev"
      rw [app_lst h0 (by rw [List.length_map, List.length_take]; exact line_big (by omega))]
      walk_at "ev"
      refine ⟨_, rfl, ?_⟩
      rw [take_snoc g2, intL, List.map_append]
      rfl
    · cases hi
  · rintro env s ⟨y, rfl, rfl⟩
    rw [rngD_len, List.take_of_length_le (by omega)]
    walk_at "ev"
    have h0 : (st ++ [intL (chain c x k)])[st.length]? = some (.lst ((chain c x k).map .int)) := by rw [get_app0]; rfl
    rw [if_pos (ty_rev h0)]
    walk_at "ev"
    rw [rev_lst h0]
    walk_at "ev"
    unfold M87.trace intL
    rw [Nat.add_sub_cancel, List.map_reverse]
end K87
set_option Elab.async false
set_option linter.all false
set_option maxRecDepth 100000
set_option maxHeartbeats 1000000
namespace K87
open PySem PySem.Spec PyProof.Rows L2 FL M87
local macro_rules | `(tactic| walk_at "ev") => `(tactic| simp (config := {failIfUnchanged := false}) only [evSs_c, evSs_n, evS, evE, evEs, evEo, evT, evAnd, evOr, evIt, evTg, evTgs, evCo, bind_okR, toS_okR, noX_okR, seq_nx, seq_ret, seq_brk, seq_cnt, turn_nx, turn_cnt, turn_ret, turn_brk, fin_ret, fin_nx, ofO_some, br_t, br_f,
  List.getElem?_cons_zero, List.getElem?_cons_succ, List.set_cons_zero, List.set_cons_succ, Bop.g, Cop.g, Blt.g, Bm.g, get_app0, get_appN, set_app0, set_appN, List.length_append, List.length_cons, List.length_nil, List.append_assoc, List.cons_append, List.nil_append, Nat.zero_add, Nat.add_zero, line0, line1, line2, line3, line4, line5, line6, line7, line8, line9, if_true, FL.eq_int, FL.ne_int, FL.add_int, FL.sub_int, cmp_int, isN_non, notN_non, tr_bl, len_tup, D.isN, Bool.not_true, Bool.not_false, Tgs.len])
local macro_rules | `(tactic| walk_at "in") => `(tactic| simp only [startE, List.map_cons, List.map_nil, List.length_cons, List.length_nil, List.replicate, List.cons_append, List.nil_append, Nat.reduceSub, Nat.zero_add, Nat.reduceAdd])
/-! ### stores that grow -/
def Grow (st s : Sto) : Prop := ∃ ext, s = st ++ ext
theorem Grow.refl (st : Sto) : Grow st st := ⟨[], (List.append_nil _).symm⟩
theorem Grow.snoc {st s : Sto} (h : Grow st s) (o : O) : Grow st (s ++ [o]) := by
  obtain ⟨e, rfl⟩ := h
  exact ⟨e ++ [o], List.append_assoc _ _ _⟩
theorem Grow.set {st s : Sto} (h : Grow st s) {r : Nat} (hr : st.length ≤ r) (o : O) : Grow st (s.set r o) := by
  obtain ⟨e, rfl⟩ := h
  exact ⟨e.set (r - st.length) o, List.set_append_right _ _ hr⟩
theorem Grow.trans {a b c : Sto} (h : Grow a b) (h2 : Grow b c) : Grow a c := by
  obtain ⟨e, rfl⟩ := h
  obtain ⟨f, rfl⟩ := h2
  exact ⟨e ++ f, List.append_assoc _ _ _⟩
theorem Grow.get {st s : Sto} (h : Grow st s) {r : Nat} {o : O} (e : st[r]? = some o) : s[r]? = some o := by
  obtain ⟨e2, rfl⟩ := h
  exact get_old e
theorem Grow.len {st s : Sto} (h : Grow st s) : st.length ≤ s.length := by
  obtain ⟨e, rfl⟩ := h
  rw [List.length_append]
  exact Nat.le_add_right _ _
theorem Grow.app (st ext : Sto) : Grow st (st ++ ext) := ⟨ext, rfl⟩
theorem lt_of_get {st : Sto} {r : Nat} {o : O} (h : st[r]? = some o) : r < st.length := (List.getElem?_eq_some_iff.mp h).1
/-! ### told -/
def dicF (N : List Int) (F : Int → Nat) : List (Key × D) := N.map fun x => (.inl x, .ref (F x))
theorem dicF_val (N : List Int) (F : Int → Nat) (x : Int) : dval (dicF N F) (.inl x) = if x ∈ N then some (.ref (F x)) else none := by
  induction N with
  | nil => rfl
  | cons y r ih =>
    show dval ((.inl y, .ref (F y)) :: dicF r F) _ = _
    rw [dval_cons, ih]
    by_cases h : y = x
    · subst h
      simp
    · have : ¬ (Sum.inl y : Key) = Sum.inl x := fun e => h (Sum.inl.inj e)
      have h2 : ¬ x = y := fun e => h e.symm
      simp [h, h2, this]
theorem dicF_keys (N : List Int) (F : Int → Nat) : (dicF N F).map (·.1) = N.map Sum.inl := by
  unfold dicF
  rw [List.map_map]
  rfl
structure Told (A : Int → List Int) (N : List Int) (F : Int → Nat) (t : Nat) (s : Sto) : Prop where
  dic : s[t]? = some (.dic (dicF N F))
  at_ : ∀ x ∈ N, t < F x ∧ s[F x]? = some (.lst ((A x).map .int))
  inj : ∀ x ∈ N, ∀ y ∈ N, F x = F y → x = y
  none_ : ∀ x, x ∉ N → A x = []
def addN (N : List Int) (a : Int) : List Int := if a ∈ N then N else N ++ [a]
theorem mem_addN {N : List Int} {a x : Int} : x ∈ addN N a ↔ x ∈ N ∨ x = a := by
  unfold addN
  split
  · rename_i h
    constructor
    · exact .inl
    · rintro (h2 | rfl)
      · exact h2
      · exact h
  · simp
theorem addN_len (N : List Int) (a : Int) : (addN N a).length ≤ N.length + 1 := by
  unfold addN
  split
  · omega
  · simp
theorem Told.grow {A : Int → List Int} {N : List Int} {F : Int → Nat} {t : Nat} {s s' : Sto} (T : Told A N F t s) (g : Grow s s') : Told A N F t s' :=
  ⟨g.get T.dic, fun x hx => ⟨(T.at_ x hx).1, g.get (T.at_ x hx).2⟩, T.inj, T.none_⟩
/-- setdefault -/
theorem Told.setd {A : Int → List Int} {N : List Int} {F : Int → Nat} {t : Nat} {s : Sto} (T : Told A N F t s) (a : Int) (hN : N.length ≤ 1000) :
    ∃ F' s', gSetd (.ref t) [.int a, .ref s.length] (s ++ [.lst []]) = some (.ref (F' a), s') ∧ Told A (addN N a) F' t s' ∧ ∀ base, Grow base s → base.length ≤ t → Grow base s' := by
  have hd : (s ++ [.lst []])[t]? = some (.dic (dicF N F)) := get_old T.dic
  have hl : (dicF N F).length < sizeLine := by
    unfold dicF
    rw [List.length_map]
    exact line_big (by omega)
  by_cases h : a ∈ N
  · refine ⟨F, s ++ [.lst []], ?_, ?_, fun base g _ => g.snoc _⟩
    · unfold gSetd D.key
      dsimp only
      rw [hd]
      dsimp only
      rw [dicF_val, if_pos h]
      dsimp only
      rw [if_pos hl]
    · unfold addN
      rw [if_pos h]
      exact T.grow (Grow.app _ _)
  · refine ⟨fun x => if x = a then s.length else F x, (s ++ [O.lst []]).set t (.dic (dput (dicF N F) (.inl a) (.ref s.length))), ?_, ?_, fun base g h => (g.snoc _).set h _⟩
    · unfold gSetd D.key
      dsimp only
      rw [hd]
      dsimp only
      rw [dicF_val, if_neg h]
      dsimp only
      rw [if_pos hl, if_pos rfl]
    · have ht := lt_of_get T.dic
      have ne : ∀ x ∈ N, x ≠ a := fun x hx e => h (e ▸ hx)
      have hF : ∀ x ∈ N, F x < s.length := fun x hx => lt_of_get (T.at_ x hx).2
      refine ⟨?_, fun x hx => ?_, fun x hx y hy e => ?_, fun x hx => T.none_ x fun z => hx (mem_addN.mpr (.inl z))⟩
      · rw [List.getElem?_set_self (by rw [List.length_append]; omega), dput_new]
        · unfold addN dicF
          rw [if_neg h, List.map_append, List.map_cons, List.map_nil]
          show some (O.dic (_ ++ [(Sum.inl a, D.ref s.length)])) = some (O.dic (_ ++ [(Sum.inl a, D.ref (if a = a then s.length else F a))]))
          rw [if_pos rfl]
          congr 3
          apply List.map_congr_left
          intro x hx
          show _ = (Sum.inl x, D.ref (if x = a then s.length else F x))
          rw [if_neg (ne x hx)]
        · rw [dicF_keys]
          intro z
          obtain ⟨y, hy, e⟩ := List.mem_map.mp z
          cases e
          exact h hy
      · rcases mem_addN.mp hx with hx | rfl
        · try dsimp only
          rw [if_neg (ne x hx)]
          have h1 := (T.at_ x hx).1
          refine ⟨h1, ?_⟩
          rw [List.getElem?_set_ne (by omega)]
          exact get_old (T.at_ x hx).2
        · try dsimp only
          rw [if_pos rfl, T.none_ x h]
          refine ⟨ht, ?_⟩
          rw [List.getElem?_set_ne (by omega), get_app0]
          rfl
      · try dsimp only at e
        rcases mem_addN.mp hx with h1 | h1 <;> rcases mem_addN.mp hy with h2 | h2
        · rw [if_neg (ne x h1), if_neg (ne y h2)] at e
          exact T.inj x h1 y h2 e
        · rw [if_neg (ne x h1), if_pos h2] at e
          have := hF x h1
          omega
        · rw [if_pos h1, if_neg (ne y h2)] at e
          have := hF y h2
          omega
        · rw [h1, h2]
theorem Told.app {A : Int → List Int} {N : List Int} {F : Int → Nat} {t : Nat} {s : Sto} (T : Told A N F t s) {a : Int} (b : Int) (ha : a ∈ N) (hl : (A a).length ≤ 1000) :
    gAppend (.ref (F a)) [.int b] s = some (.non, s.set (F a) (.lst (((A a) ++ [b]).map .int))) ∧ Told (fun x => if x = a then A a ++ [b] else A x) N F t (s.set (F a) (.lst (((A a) ++ [b]).map .int))) := by
  refine ⟨?_, ?_⟩
  · rw [app_lst (T.at_ a ha).2 (by rw [List.length_map]; exact line_big (by omega)), List.map_append]
    rfl
  · have h1 := (T.at_ a ha).1
    refine ⟨?_, fun x hx => ⟨(T.at_ x hx).1, ?_⟩, T.inj, fun x hx => ?_⟩
    · rw [List.getElem?_set_ne (by omega)]
      exact T.dic
    · by_cases e : x = a
      · subst e
        rw [List.getElem?_set_self (lt_of_get (T.at_ x ha).2)]
        try dsimp only
        rw [if_pos rfl]
      · try dsimp only
        rw [List.getElem?_set_ne (fun z => e (T.inj x hx a ha z.symm)), if_neg e]
        exact (T.at_ x hx).2
    · try dsimp only
      rw [if_neg]
      · exact T.none_ x hx
      · rintro rfl
        exact hx ha
def nodes : Ps → List Int
  | [] => []
  | p :: r => p.1 :: p.2 :: nodes r
def numN (ps : Ps) : List Int := ps.foldl (fun N p => addN (addN N p.1) p.2) []
def pD (p : Int × Int) : D := .tup [.int p.1, .int p.2]
theorem adj_snoc (ps : Ps) (p : Int × Int) : adj (ps ++ [p]) = fun x => if x = p.1 then adj ps p.1 ++ [p.2] else adj ps x := by
  funext x
  unfold adj
  rw [List.filter_append, List.map_append]
  by_cases h : p.1 = x
  · subst h
    rw [if_pos rfl]
    simp
  · rw [if_neg (fun e => h e.symm)]
    simp [h]
theorem adj_len (ps : Ps) (x : Int) : (adj ps x).length ≤ ps.length := by
  unfold adj
  rw [List.length_map]
  exact List.length_filter_le _ _
theorem numN_snoc (ps : Ps) (p : Int × Int) : numN (ps ++ [p]) = addN (addN (numN ps) p.1) p.2 := by
  unfold numN
  rw [List.foldl_append]
  rfl
theorem mem_numN {ps : Ps} {p : Int × Int} (h : p ∈ ps) : p.1 ∈ numN ps ∧ p.2 ∈ numN ps := by
  have key : ∀ n : Nat, ∀ p ∈ ps.take n, p.1 ∈ numN (ps.take n) ∧ p.2 ∈ numN (ps.take n) := by
    intro n
    induction n with
    | zero => intro p hp; cases hp
    | succ n ih =>
      intro p hp
      cases q : ps[n]? with
      | none =>
        have e : ps.take (n + 1) = ps.take n := by rw [List.take_add_one, q]; exact List.append_nil _
        rw [e] at hp ⊢
        exact ih p hp
      | some a =>
        rw [take_snoc q] at hp ⊢
        rw [numN_snoc]
        rcases List.mem_append.mp hp with hp | hp
        · have := ih p hp
          exact ⟨mem_addN.mpr (.inl (mem_addN.mpr (.inl this.1))), mem_addN.mpr (.inl (mem_addN.mpr (.inl this.2)))⟩
        · cases List.mem_singleton.mp hp
          exact ⟨mem_addN.mpr (.inl (mem_addN.mpr (.inr rfl))), mem_addN.mpr (.inr rfl)⟩
  have := key ps.length p
  rw [List.take_length] at this
  exact this h
theorem numN_len (ps : Ps) : (numN ps).length ≤ 2 * ps.length := by
  have key : ∀ n : Nat, (numN (ps.take n)).length ≤ 2 * (ps.take n).length := by
    intro n
    induction n with
    | zero => exact Nat.le_refl _
    | succ n ih =>
      cases q : ps[n]? with
      | none =>
        have e : ps.take (n + 1) = ps.take n := by rw [List.take_add_one, q]; exact List.append_nil _
        rw [e]
        exact ih
      | some a =>
        rw [take_snoc q, numN_snoc]
        have h1 := addN_len (addN (numN (ps.take n)) a.1) a.2
        have h2 := addN_len (numN (ps.take n)) a.1
        rw [List.length_append, List.length_cons, List.length_nil]
        omega
  have := key ps.length
  rw [List.take_length] at this
  exact this
theorem followers_ok (W n : Nat) (st : Sto) {ps : Ps} (hl : ps.length ≤ 15) :
    ∃ F s', runF tab W (n + 1) 0 [.tup (ps.map pD)] st = .ok (.ref st.length) s' ∧ Grow st s' ∧ Told (adj ps) (numN ps) F st.length s' := by
  have main : ∀ Q : Res D → Prop, (∀ F s', Grow st s' → Told (adj ps) (numN ps) F st.length s' → Q (.ok (.ref st.length) s')) → Q (runF tab W (n + 1) 0 [.tup (ps.map pD)] st) := by
    intro Q hQ
    show Q (evSs ⟨runF tab W n, W⟩ c_followers (startE 4 [.tup (ps.map pD)]) st).fin
    unfold c_followers
    walk_at "in"
    walk_at "ev"
    refine for_items (ps.map pD) (fun i env s => ∃ y z F, env = [some (.tup (ps.map pD)), some (.ref st.length), y, z] ∧ Grow st s ∧ Told (adj (ps.take i)) (numN (ps.take i)) F st.length s) (fun r => Q (r.seq _).fin) ⟨none, none, fun _ => 0, rfl, Grow.app _ _, ?_⟩ ?_ ?_
    · refine ⟨?_, fun x hx => (nomatch hx), fun x hx => (nomatch hx), fun x _ => rfl⟩
      rw [get_app0]
      rfl
    · rintro i x env s hi ⟨y, z, F, rfl, G, T⟩
      rw [List.getElem?_map] at hi
      cases q : ps[i]? with
      | none => rw [q] at hi; cases hi
      | some p =>
        rw [q] at hi
        cases hi
        have hil : i < ps.length := (List.getElem?_eq_some_iff.mp q).1
        have htl : (ps.take i).length = i := by rw [List.length_take]; omega
        have hnl := numN_len (ps.take i)
        rw [show pD p = D.tup [.int p.1, .int p.2] from rfl]
        walk_at "ev"
        have hd := T.dic
        obtain ⟨F1, s1, e1, T1, G1⟩ := T.setd p.1 (by omega)
        rw [if_pos (ty_setd hd)]
        walk_at "ev"
        rw [e1]
        walk_at "ev"
        have m1 : p.1 ∈ addN (numN (ps.take i)) p.1 := mem_addN.mpr (.inr rfl)
        rw [if_pos (ty_app (T1.at_ _ m1).2)]
        walk_at "ev"
        have hal := adj_len (ps.take i) p.1
        obtain ⟨e2, T2⟩ := T1.app p.2 m1 (by omega)
        rw [e2]
        walk_at "ev"
        rw [if_pos (ty_setd T2.dic)]
        walk_at "ev"
        have hnl2 := addN_len (numN (ps.take i)) p.1
        obtain ⟨F3, s3, e3, T3, G3⟩ := T2.setd p.2 (by omega)
        rw [e3]
        walk_at "ev"
        refine ⟨_, _, F3, rfl, ?_, ?_⟩
        · exact G3 _ ((G1 _ G (Nat.le_refl _)).set (Nat.le_of_lt (T1.at_ _ m1).1) _) (Nat.le_refl _)
        · rw [take_snoc q, numN_snoc, adj_snoc]
          exact T3
    · rintro env s ⟨y, z, F, rfl, G, T⟩
      walk_at "ev"
      rw [List.length_map, List.take_length] at T
      exact hQ F s G T
  exact main (fun r => ∃ F s', r = .ok (.ref st.length) s' ∧ Grow st s' ∧ Told (adj ps) (numN ps) F st.length s') fun F s' G T => ⟨F, s', rfl, G, T⟩
end K87
set_option Elab.async false
set_option linter.all false
set_option maxRecDepth 100000
set_option maxHeartbeats 1000000
namespace K87
open PySem PySem.Spec PyProof.Rows L2 FL M87
local macro_rules | `(tactic| walk_at "ev") => `(tactic| simp (config := {failIfUnchanged := false}) only [evSs_c, evSs_n, evS, evE, evEs, evEo, evT, evAnd, evOr, evIt, evTg, evTgs, evCo, bind_okR, toS_okR, noX_okR, seq_nx, seq_ret, seq_brk, seq_cnt, turn_nx, turn_cnt, turn_ret, turn_brk, fin_ret, fin_nx, ofO_some, br_t, br_f,
  List.getElem?_cons_zero, List.getElem?_cons_succ, List.set_cons_zero, List.set_cons_succ, Bop.g, Cop.g, Blt.g, Bm.g, get_app0, get_appN, set_app0, set_appN, List.length_append, List.length_cons, List.length_nil, List.append_assoc, List.cons_append, List.nil_append, Nat.zero_add, Nat.add_zero, line0, line1, line2, line3, line4, line5, line6, line7, line8, line9, if_true, FL.eq_int, FL.ne_int, FL.add_int, FL.sub_int, cmp_int, isN_non, notN_non, tr_bl, len_tup, D.isN, Bool.not_true, Bool.not_false, Tgs.len])
local macro_rules | `(tactic| walk_at "in") => `(tactic| simp only [startE, List.map_cons, List.map_nil, List.length_cons, List.length_nil, List.replicate, List.cons_append, List.nil_append, Nat.reduceSub, Nat.zero_add, Nat.reduceAdd])
/-! ### way_back -/
structure Cc (N : List Int) (c : Ps) : Prop where
  cl : ∀ y p, look c y = some p → p ∈ keys c
  nd : (keys c).Nodup
  sub : ∀ y ∈ keys c, y ∈ N
theorem Cc.len {N : List Int} {c : Ps} (h : Cc N c) : c.length ≤ N.length := by
  have := nodup_le h.nd h.sub
  unfold keys at this
  rw [List.length_map] at this
  exact this
theorem Cc.snoc {N : List Int} {c : Ps} (h : Cc N c) {f x : Int} (hx : x ∈ keys c) (hf : f ∉ keys c) (hn : f ∈ N) : Cc N (c ++ [(f, x)]) := by
  refine ⟨fun y p e => ?_, ?_, fun y hy => ?_⟩
  · rw [keys_snoc]
    rw [look_snoc hf] at e
    split at e
    · cases e
      exact List.mem_append_left _ hx
    · exact List.mem_append_left _ (h.cl y p e)
  · rw [keys_snoc]
    rw [List.nodup_append]
    refine ⟨h.nd, by simp, ?_⟩
    intro a ha b hb e
    cases List.mem_singleton.mp hb
    subst e
    exact hf ha
  · rw [keys_snoc] at hy
    rcases List.mem_append.mp hy with hy | hy
    · exact h.sub y hy
    · cases List.mem_singleton.mp hy
      exact hn
theorem Cc.start {N : List Int} {s : Int} (h : s ∈ N) : Cc N [(s, s)] := by
  refine ⟨fun y p e => ?_, by simp [keys], fun y hy => ?_⟩
  · have := look_mem e
    cases List.mem_singleton.mp this
    exact List.mem_singleton.mpr rfl
  · cases List.mem_singleton.mp hy
    exact h
theorem chain_len (c : Ps) : ∀ (n : Nat) (x : Int), (chain c x n).length = n + 1
  | 0, x => rfl
  | n + 1, x => by
    show (x :: chain c _ n).length = _
    rw [List.length_cons, chain_len c n]
theorem chain_look {N : List Int} {c : Ps} (h : Cc N c) : ∀ (n : Nat) (x : Int), x ∈ keys c → ∀ (i : Nat) a b, (chain c x n)[i]? = some a → (chain c x n)[i + 1]? = some b → look c a = some b
  | 0, x, hx, i, a, b, h1, h2 => by
    change ([x] : List Int)[i + 1]? = some b at h2
    rw [List.getElem?_cons_succ] at h2
    cases h2
  | n + 1, x, hx, i, a, b, h1, h2 => by
    obtain ⟨p, hp⟩ := look_some hx
    change (x :: chain c ((look c x).getD 0) n)[i]? = some a at h1
    change (x :: chain c ((look c x).getD 0) n)[i + 1]? = some b at h2
    rw [hp] at h1 h2
    change (x :: chain c p n)[i]? = some a at h1
    change (x :: chain c p n)[i + 1]? = some b at h2
    rw [List.getElem?_cons_succ] at h2
    cases i with
    | zero =>
      rw [List.getElem?_cons_zero] at h1
      cases h1
      have e : (chain c p n)[0]? = some p := by cases n <;> rfl
      rw [e] at h2
      cases h2
      exact hp
    | succ i =>
      rw [List.getElem?_cons_succ] at h1
      exact chain_look h n p (h.cl _ _ hp) i a b h1 h2
/-- the store within way_back -/
structure Cst (N : List Int) (s0 : Sto) (rc rl : Nat) (c : Ps) (la : List Int) (s : Sto) : Prop where
  grow : Grow s0 s
  hc : s[rc]? = some (.dic (dicI c))
  hla : s[rl]? = some (intL la)
  b1 : s0.length ≤ rc
  b2 : s0.length ≤ rl
  ne : rc ≠ rl
  cc : Cc N c
  sub : ∀ y ∈ la, y ∈ keys c
  ll : la.length ≤ c.length
theorem drop_cons {α : Type} {l : List α} {i : Nat} {x : α} (h : l[i]? = some x) : l.drop i = x :: l.drop (i + 1) := by
  obtain ⟨h1, h2⟩ := List.getElem?_eq_some_iff.mp h
  rw [List.drop_eq_getElem_cons h1, h2]
def WbR (A : Int → List Int) (s : Int) (m : Nat) (s0 : Sto) (r : Res D) : Prop := match wayBack A s m with
  | none => ∃ s', r = .ok .non s' ∧ Grow s0 s'
  | some g => ∃ s' q, r = .ok (.ref q) s' ∧ Grow s0 s' ∧ s'[q]? = some (intL g)

def f_in : S := .for_ (.name 8) (.seq (.ix (.var 0) (.var 7))) (.cons (.ite (.cmp .eq (.var 8) (.var 1)) (.cons (.ret (.call 2 (.cons (.var 3) (.cons (.var 7) (.cons (.var 5) .nil))))) .nil) .nil) (.cons (.ite (.cmp .nin (.var 8) (.var 3)) (.cons (.asg (.sub (.var 3) (.var 8)) (.var 7)) (.cons (.expr (.meth .append (.var 6) (.cons (.var 8) .nil))) .nil)) .nil) .nil))
def f_mid : S := .for_ (.name 7) (.seq (.var 4)) (.cons f_in .nil)
theorem wb_eq : c_way_back = (.cons (.set 3 (.dic1 (.var 1) (.var 1))) (.cons (.set 4 (.lst (.cons (.var 1) .nil))) (.cons (.for_ (.name 5) (.rng2 (.int 1) (.bin .add (.var 2) (.int 1))) (.cons (.set 6 (.lst .nil)) (.cons f_mid (.cons (.ite (.not (.val (.var 6))) (.cons (.ret .non) .nil) .nil) (.cons (.set 4 (.var 6)) .nil))))) (.cons (.ret .non) .nil)))) := rfl
theorem in_ok {W : Nat} (hW : 1000 ≤ W) (n : Nat) {A : Int → List Int} {N : List Int} {F : Int → Nat} {t rc rl rn : Nat} {s0 s' : Sto} {s x : Int} {i : Nat} {c' : Ps} {la l' : List Int} {d2 d4 e8 : Option D} (Q : SR → Prop) (T : Told A N F t s0) (hA : ∀ x y, y ∈ A x → y ∈ N) (hal : ∀ x, (A x).length ≤ 1000) (hN : N.length ≤ 1000) (him : i ≤ 1000)
    (C1 : Cst N s0 rc rl c' la s') (C2 : Cst N s0 rc rn c' l' s') (hne : rn ≠ rl) (hxN : x ∈ keys c')
    (q1 : ∀ c'' env s'' q, goF s x (A x) c' l' = .found c'' → Grow s0 s'' → s''[q]? = some (intL (M87.trace c'' x (i + 1))) → Q (.ok (.ret (.ref q)) env s''))
    (q2 : ∀ c'' l'' e8 s'', goF s x (A x) c' l' = .on (c'', l'') → Cst N s0 rc rl c'' la s'' → Cst N s0 rc rn c'' l'' s'' → Q (.ok .nx [some (.ref t), some (.int s), d2, some (.ref rc), d4, some (.int (1 + (i : Int))), some (.ref rn), some (.int x), e8] s'')) :
    Q (evS ⟨runF tab W (n + 1), W⟩ f_in [some (.ref t), some (.int s), d2, some (.ref rc), d4, some (.int (1 + (i : Int))), some (.ref rn), some (.int x), e8] s') := by
  unfold f_in
  walk_at "ev"
  have T1 := T.grow C1.grow
  rw [ix_dic T1.dic (k := .int x) rfl (by rw [dicF_val, if_pos (C1.cc.sub x hxN)])]
  walk_at "ev"
  rw [lstOf_lst (T1.at_ x (C1.cc.sub x hxN)).2]
  walk_at "ev"
  refine for_live ((A x).map .int) (fun k env s'' => ∃ c'' l'' e8, env = [some (.ref t), some (.int s), d2, some (.ref rc), d4, some (.int (1 + (i : Int))), some (.ref rn), some (.int x), e8] ∧ Cst N s0 rc rl c'' la s'' ∧ Cst N s0 rc rn c'' l'' s'' ∧ x ∈ keys c'' ∧ goF s x (A x) c' l' = goF s x ((A x).drop k) c'' l'') Q (by rw [List.length_map]; exact Nat.le_trans (hal x) hW) ⟨c', l', e8, rfl, C1, C2, hxN, rfl⟩ ?_ ?_ ?_
  · rintro k env s'' hk ⟨c'', l'', e8, rfl, C3, C4, hx3, hf⟩
    exact lstOf_lst ((T.grow C3.grow).at_ x (C1.cc.sub x hxN)).2
  · rintro k z env s'' hk ⟨c'', l'', e8, rfl, C3, C4, hx3, hf⟩
    rw [List.getElem?_map] at hk
    cases qf : (A x)[k]? with
    | none => rw [qf] at hk; cases hk
    | some f =>
      rw [qf] at hk
      cases hk
      walk_at "ev"
      rw [drop_cons qf] at hf
      rw [goF] at hf
      by_cases hfs : f = s
      · rw [show (f == s) = true from beq_iff_eq.mpr hfs]
        rw [if_pos hfs] at hf
        walk_at "ev"
        have tr := traced_ok W n (k := i) (x := x) C3.hc him (chain_len _ _ _) (chain_look C3.cc i x hx3)
        rw [show ((i + 1 : Nat) : Int) = 1 + (i : Int) by omega] at tr
        rw [tr]
        walk_at "ev"
        refine q1 c'' _ _ _ hf (C3.grow.snoc _) ?_
        rw [get_app0]
        rfl
      · rw [show (f == s) = false from beq_eq_false_iff_ne.mpr hfs]
        rw [if_neg hfs] at hf
        walk_at "ev"
        have hfN : f ∈ N := hA x f (List.mem_of_getElem? qf)
        rw [nin_dic C3.hc (k := .int f) rfl, dicI_some]
        by_cases hfc : f ∈ keys c''
        · rw [decide_eq_true hfc]
          rw [if_pos hfc] at hf
          walk_at "ev"
          exact ⟨c'', l'', _, rfl, C3, C4, hx3, hf⟩
        · rw [decide_eq_false hfc]
          rw [if_neg hfc] at hf
          walk_at "ev"
          have hcl3 := C3.cc.len
          have hll4 := C4.ll
          rw [put_dic C3.hc (k := .int f) rfl (by unfold dicI; rw [List.length_map]; exact line_big (by omega)), dicI_put x hfc]
          walk_at "ev"
          have hla4 : (s''.set rc (.dic (dicI (c'' ++ [(f, x)]))))[rn]? = some (.lst (l''.map .int)) := by
            rw [List.getElem?_set_ne C4.ne]
            exact C4.hla
          rw [if_pos (ty_app hla4)]
          walk_at "ev"
          rw [app_lst hla4 (by rw [List.length_map]; exact line_big (by omega))]
          walk_at "ev"
          have cc5 := C3.cc.snoc hx3 hfc hfN
          have ltc := lt_of_get C3.hc
          have ltn := lt_of_get C4.hla
          have G5 : Grow s0 ((s''.set rc (.dic (dicI (c'' ++ [(f, x)])))).set rn (.lst (l''.map .int ++ [.int f]))) := (C3.grow.set C3.b1 _).set C4.b2 _
          have hc5 : ((s''.set rc (.dic (dicI (c'' ++ [(f, x)])))).set rn (.lst (l''.map .int ++ [.int f])))[rc]? = some (.dic (dicI (c'' ++ [(f, x)]))) := by
            rw [List.getElem?_set_ne (Ne.symm C4.ne), List.getElem?_set_self ltc]
          refine ⟨c'' ++ [(f, x)], l'' ++ [f], _, rfl, ⟨G5, hc5, ?_, C3.b1, C3.b2, C3.ne, cc5, fun y hy => ?_, ?_⟩, ⟨G5, hc5, ?_, C4.b1, C4.b2, C4.ne, cc5, fun y hy => ?_, ?_⟩, ?_, hf⟩
          · rw [List.getElem?_set_ne hne, List.getElem?_set_ne C3.ne]
            exact C3.hla
          · rw [keys_snoc]
            exact List.mem_append_left _ (C3.sub y hy)
          · have := C3.ll
            rw [List.length_append]
            omega
          · rw [List.getElem?_set_self (by rw [List.length_set]; exact ltn), intL, List.map_append]
            rfl
          · rw [keys_snoc]
            rcases List.mem_append.mp hy with hy | hy
            · exact List.mem_append_left _ (C4.sub y hy)
            · exact List.mem_append_right _ hy
          · rw [List.length_append, List.length_append]
            simp only [List.length_cons, List.length_nil]
            omega
          · rw [keys_snoc]
            exact List.mem_append_left _ hx3
  · rintro env s'' ⟨c'', l'', e8, rfl, C3, C4, hx3, hf⟩
    rw [List.length_map, List.drop_length] at hf
    exact q2 c'' l'' e8 s'' hf C3 C4
theorem mid_ok {W : Nat} (hW : 1000 ≤ W) (n : Nat) {A : Int → List Int} {N : List Int} {F : Int → Nat} {t rc rl rn : Nat} {s0 st : Sto} {s : Int} {i : Nat} {c : Ps} {la l : List Int} {d2 e7 e8 : Option D} (Q : SR → Prop) (T : Told A N F t s0) (hA : ∀ x y, y ∈ A x → y ∈ N) (hal : ∀ x, (A x).length ≤ 1000) (hN : N.length ≤ 1000) (him : i ≤ 1000)
    (C1 : Cst N s0 rc rl c la st) (C2 : Cst N s0 rc rn c l st) (hne : rn ≠ rl)
    (q1 : ∀ c'' x env s'' q, goN A s la c l = .found (c'', x) → Grow s0 s'' → s''[q]? = some (intL (M87.trace c'' x (i + 1))) → Q (.ok (.ret (.ref q)) env s''))
    (q2 : ∀ c'' l'' e7 e8 s'', goN A s la c l = .on (c'', l'') → Cst N s0 rc rl c'' la s'' → Cst N s0 rc rn c'' l'' s'' → Q (.ok .nx [some (.ref t), some (.int s), d2, some (.ref rc), some (.ref rl), some (.int (1 + (i : Int))), some (.ref rn), e7, e8] s'')) :
    Q (evS ⟨runF tab W (n + 1), W⟩ f_mid [some (.ref t), some (.int s), d2, some (.ref rc), some (.ref rl), some (.int (1 + (i : Int))), some (.ref rn), e7, e8] st) := by
  unfold f_mid
  walk_at "ev"
  rw [lstOf_lst C1.hla]
  walk_at "ev"
  have hcl := C1.cc.len
  have hll := C1.ll
  refine for_live (la.map .int) (fun j env s' => ∃ c' l' e7 e8, env = [some (.ref t), some (.int s), d2, some (.ref rc), some (.ref rl), some (.int (1 + (i : Int))), some (.ref rn), e7, e8] ∧ Cst N s0 rc rl c' la s' ∧ Cst N s0 rc rn c' l' s' ∧ goN A s la c l = goN A s (la.drop j) c' l') Q (by rw [List.length_map]; omega) ⟨c, l, e7, e8, rfl, C1, C2, rfl⟩ ?_ ?_ ?_
  · rintro j env s' hj ⟨c', l', e7, e8, rfl, C1, C2, hn⟩
    exact lstOf_lst C1.hla
  · rintro j z env s' hj ⟨c', l', e7, e8, rfl, C1, C2, hn⟩
    rw [List.getElem?_map] at hj
    cases q : la[j]? with
    | none => rw [q] at hj; cases hj
    | some x =>
      rw [q] at hj
      cases hj
      walk_at "ev"
      have hxN : x ∈ keys c' := C1.sub x (List.mem_of_getElem? q)
      rw [drop_cons q] at hn
      rw [goN] at hn
      refine in_ok hW n (fun r => TurnOk _ Q (r.seq _)) T hA hal hN him C1 C2 hne hxN ?_ ?_
      · intro c'' env s'' qq hf G hq
        rw [hf] at hn
        exact q1 c'' x env s'' qq hn G hq
      · intro c'' l'' e8 s'' hf C3 C4
        rw [hf] at hn
        walk_at "ev"
        exact ⟨c'', l'', _, _, rfl, C3, C4, hn⟩
  · rintro env s' ⟨c', l', e7, e8, rfl, C1, C2, hn⟩
    rw [List.length_map, List.drop_length] at hn
    exact q2 c' l' e7 e8 s' hn C1 C2
theorem runF_def {T : List Def} {k : Nat} {d : Def} (W n : Nat) {ds : List D} (st : Sto) (h : T[k]? = some d) (hl : ds.length = d.ps.length) : runF T W (n + 1) k ds st = (evSs ⟨runF T W n, W⟩ d.body (startE d.N.length ds) st).fin := by
  rw [runF, h]
  exact if_pos hl
theorem way_back_ok {W : Nat} (hW : 1000 ≤ W) (n : Nat) {A : Int → List Int} {N : List Int} {F : Int → Nat} {t : Nat} {s0 : Sto} {s : Int} {m : Nat} (T : Told A N F t s0) (hs : s ∈ N) (hA : ∀ x y, y ∈ A x → y ∈ N) (hal : ∀ x, (A x).length ≤ 1000) (hN : N.length ≤ 1000) (hm : m ≤ 1000) :
    WbR A s m s0 (runF tab W (n + 2) 1 [.ref t, .int s, .int (m : Int)] s0) := by
  rw [runF_def (d := d_way_back) W (n + 1) s0 rfl rfl, show d_way_back.body = _ from wb_eq, show d_way_back.N.length = 9 from rfl]
  generalize hQ : WbR A s m s0 = Q
  have hQ0 : wayBack A s m = none → ∀ s', Grow s0 s' → Q (.ok .non s') := by
    intro e s' g
    rw [← hQ]
    unfold WbR
    rw [e]
    exact ⟨s', rfl, g⟩
  have hQ1 : ∀ g, wayBack A s m = some g → ∀ s' q, Grow s0 s' → s'[q]? = some (intL g) → Q (.ok (.ref q) s') := by
    intro g e s' q g1 g2
    rw [← hQ]
    unfold WbR
    rw [e]
    exact ⟨s', q, rfl, g1, g2⟩
  clear hQ
  walk_at "in"
  walk_at "ev"
  rw [show ((D.int s).key) = some (.inl s) from rfl]
  walk_at "ev"
  rw [if_pos ⟨by omega, by omega, by omega, by omega⟩]
  walk_at "ev"
  rw [show ((m : Int) + 1 - 1).toNat = m by omega]
  refine for_items (rngD 1 m) (fun i env st => ∃ c la rc rl e5 e6 e7 e8, env = [some (.ref t), some (.int s), some (.int (m : Int)), some (.ref rc), some (.ref rl), e5, e6, e7, e8] ∧ Cst N s0 rc rl c la st ∧ wayBack A s m = goL A s (m - i) (i + 1) c la) (fun r => Q (r.seq _).fin) ⟨[(s, s)], [s], s0.length, s0.length + 1, none, none, none, none, rfl, ?_, rfl⟩ ?_ ?_
  · refine ⟨Grow.app _ _, ?_, ?_, by omega, by omega, by omega, Cc.start hs, fun y hy => ?_, Nat.le_refl _⟩
    · rw [get_app0]
      rfl
    · rw [get_appN]
      rfl
    · cases List.mem_singleton.mp hy
      exact List.mem_singleton.mpr rfl
  · rintro i z env st hi ⟨c, la, rc, rl, e5, e6, e7, e8, rfl, C, hg⟩
    rw [rngD_get] at hi
    split at hi
    · rename_i him
      cases hi
      walk_at "ev"
      have hg2 : m - i = (m - (i + 1)) + 1 := by omega
      rw [hg2, goL] at hg
      have lt1 : rc < st.length := lt_of_get C.hc
      have lt2 : rl < st.length := lt_of_get C.hla
      refine mid_ok hW n (fun r => TurnOk _ (fun r => Q (r.seq _).fin) (r.seq _)) T hA hal hN (by omega) ⟨C.grow.snoc _, get_old C.hc, get_old C.hla, C.b1, C.b2, C.ne, C.cc, C.sub, C.ll⟩ (l := []) ⟨C.grow.snoc _, get_old C.hc, ?_, C.b1, C.grow.len, by omega, C.cc, fun y hy => (nomatch hy), Nat.zero_le _⟩ (by omega) ?_ ?_
      · rw [get_app0]
        rfl
      · intro c'' x env s'' q hn G hq
        rw [hn] at hg
        exact hQ1 _ hg s'' q G hq
      · intro c' l' e7 e8 s'' hn C1 C2
        walk_at "ev"
        rw [hn] at hg
        rw [tr_lst C2.hla]
        walk_at "ev"
        by_cases hl0 : l' = []
        · subst hl0
          walk_at "ev"
          exact hQ0 hg _ C1.grow
        · have e1 : (List.map D.int l').isEmpty = false := by
            cases l' with
            | nil => exact absurd rfl hl0
            | cons _ _ => rfl
          rw [e1]
          walk_at "ev"
          change wayBack A s m = if l' = [] then none else goL A s (m - (i + 1)) (i + 1 + 1) c' l' at hg
          rw [if_neg hl0] at hg
          exact ⟨c', l', rc, st.length, _, _, _, _, rfl, C2, hg⟩
    · cases hi
  · rintro env st ⟨c, la, rc, rl, e5, e6, e7, e8, rfl, C, hg⟩
    walk_at "ev"
    rw [rngD_len, Nat.sub_self] at hg
    exact hQ0 hg _ C.grow
end K87
set_option Elab.async false
set_option linter.all false
set_option maxRecDepth 100000
set_option maxHeartbeats 1000000
namespace K87
open PySem PySem.Spec PyProof.Rows L2 FL M87
local macro_rules | `(tactic| walk_at "ev") => `(tactic| simp (config := {failIfUnchanged := false}) only [evSs_c, evSs_n, evS, evE, evEs, evEo, evT, evAnd, evOr, evIt, evTg, evTgs, evCo, bind_okR, toS_okR, noX_okR, seq_nx, seq_ret, seq_brk, seq_cnt, turn_nx, turn_cnt, turn_ret, turn_brk, fin_ret, fin_nx, ofO_some, br_t, br_f,
  List.getElem?_cons_zero, List.getElem?_cons_succ, List.set_cons_zero, List.set_cons_succ, Bop.g, Cop.g, Blt.g, Bm.g, get_app0, get_appN, set_app0, set_appN, List.length_append, List.length_cons, List.length_nil, List.append_assoc, List.cons_append, List.nil_append, Nat.zero_add, Nat.add_zero, line0, line1, line2, line3, line4, line5, line6, line7, line8, line9, if_true, FL.eq_int, FL.ne_int, FL.add_int, FL.sub_int, cmp_int, isN_non, notN_non, tr_bl, len_tup, D.isN, Bool.not_true, Bool.not_false, Tgs.len])
local macro_rules | `(tactic| walk_at "in") => `(tactic| simp only [startE, List.map_cons, List.map_nil, List.length_cons, List.length_nil, List.replicate, List.cons_append, List.nil_append, Nat.reduceSub, Nat.zero_add, Nat.reduceAdd])
/-! ### ring_in, ring_of -/
theorem keyInts_dicF (N : List Int) (F : Int → Nat) : keyInts (dicF N F) = some N := by
  induction N with
  | nil => rfl
  | cons x r ih =>
    show keyInts ((.inl x, .ref (F x)) :: dicF r F) = _
    rw [keyInts, ih]
    rfl
def ringP (ps : Ps) : Option (List Int) := ringM (adj ps) (sortI (numN ps)) (numN ps).length none
def optD : Option (List Int) → D
  | none => .non
  | some r => .tup (r.map .int)
def BestOk (d : D) (b : Option (List Int)) (s : Sto) : Prop := match b with
  | none => d = .non
  | some r => ∃ q, d = .ref q ∧ s[q]? = some (intL r)
theorem BestOk.grow {d : D} {b : Option (List Int)} {s s' : Sto} (h : BestOk d b s) (g : Grow s s') : BestOk d b s' := by
  cases b with
  | none => exact h
  | some r =>
    obtain ⟨q, h1, h2⟩ := h
    exact ⟨q, h1, g.get h2⟩
theorem adj_mem_numN {ps : Ps} (x y : Int) (h : y ∈ adj ps x) : y ∈ numN ps := (mem_numN (mem_adj.mp h)).2
theorem ring_in_ok {W : Nat} (hW : 1000 ≤ W) (n : Nat) (st : Sto) {ps : Ps} (hl : ps.length ≤ 15) :
    ∃ s', runF tab W (n + 3) 3 [.tup (ps.map pD)] st = .ok (optD (ringP ps)) s' ∧ Grow st s' := by
  rw [runF_def (d := d_ring_in) W (n + 2) st rfl rfl]
  show ∃ s', SR.fin (evSs ⟨runF tab W (n + 2), W⟩ c_ring_in (startE 6 [.tup (ps.map pD)]) st) = _ ∧ _
  unfold c_ring_in
  generalize hQ : (fun r => ∃ s', r = .ok (optD (ringP ps)) s' ∧ Grow st s' : Res D → Prop) = Q
  have hQ0 : ∀ s', Grow st s' → Q (.ok (optD (ringP ps)) s') := by
    intro s' g
    rw [← hQ]
    exact ⟨s', rfl, g⟩
  suffices h : Q (SR.fin (evSs ⟨runF tab W (n + 2), W⟩ c_ring_in (startE 6 [.tup (ps.map pD)]) st)) by
    rw [← hQ] at h
    exact h
  clear hQ
  unfold c_ring_in
  walk_at "in"
  walk_at "ev"
  obtain ⟨F, s1, e1, G1, T1⟩ := followers_ok W (n + 1) st hl
  rw [e1]
  walk_at "ev"
  rw [len_dic T1.dic]
  walk_at "ev"
  have hnl := numN_len ps
  have hso : gSorted [.ref st.length] s1 = some (.ref s1.length, s1 ++ [.lst ((sortI (numN ps)).map .int)]) := by
    unfold gSorted
    dsimp only
    rw [T1.dic]
    dsimp only
    rw [keyInts_dicF, Option.bind_some, if_pos (by omega)]
  rw [hso]
  walk_at "ev"
  have hss : (sortI (numN ps)).length = (numN ps).length := (sortI_perm _).length_eq
  have hs2 : (s1 ++ [O.lst ((sortI (numN ps)).map .int)])[s1.length]? = some (.lst ((sortI (numN ps)).map .int)) := by
    rw [get_app0]
    rfl
  rw [lstOf_lst hs2]
  walk_at "ev"
  have hdl : (dicF (numN ps) F).length = (numN ps).length := by unfold dicF; rw [List.length_map]
  rw [hdl]
  refine for_live ((sortI (numN ps)).map .int) (fun i env s => ∃ b d2 m e4 e5, env = [some (.tup (ps.map pD)), some (.ref st.length), some d2, some (.int (m : Nat)), e4, e5] ∧ Grow (s1 ++ [O.lst ((sortI (numN ps)).map .int)]) s ∧ BestOk d2 b s ∧ m ≤ (numN ps).length ∧ ringP ps = ringM (adj ps) ((sortI (numN ps)).drop i) m b) (fun r => Q (r.seq _).fin) (by rw [List.length_map]; omega) ⟨none, .non, _, none, none, rfl, Grow.refl _, rfl, Nat.le_refl _, rfl⟩ ?_ ?_ ?_
  · rintro i env s hi ⟨b, d2, m, e4, e5, rfl, G, B, hm, hr⟩
    exact lstOf_lst (G.get hs2)
  · rintro i z env s hi ⟨b, d2, m, e4, e5, rfl, G, B, hm, hr⟩
    rw [List.getElem?_map] at hi
    cases q : (sortI (numN ps))[i]? with
    | none => rw [q] at hi; cases hi
    | some x =>
      rw [q] at hi
      cases hi
      walk_at "ev"
      rw [drop_cons q, ringM] at hr
      have hx : x ∈ numN ps := (sortI_perm _).mem_iff.mp (List.mem_of_getElem? q)
      have T2 := T1.grow ((Grow.app s1 _).trans G)
      have wb := way_back_ok hW n (m := m) T2 hx adj_mem_numN (fun y => Nat.le_trans (adj_len ps y) (by omega)) (by omega) (by omega)
      have wo := wayBack_ok (adj ps) (ps := ps) (fun x y => mem_adj) x m
      unfold WbR at wb
      cases qw : wayBack (adj ps) x m with
      | none =>
        rw [qw] at wb hr
        obtain ⟨s3, e3, G3⟩ := wb
        rw [e3]
        walk_at "ev"
        exact ⟨b, d2, m, _, _, rfl, G.trans G3, B.grow G3, hm, hr⟩
      | some r =>
        rw [qw] at wb hr wo
        obtain ⟨s3, qq, e3, G3, h3⟩ := wb
        rw [e3]
        walk_at "ev"
        rw [len_lst h3]
        walk_at "ev"
        rw [List.length_map, show ((r.length : Int) - 1) = ((r.length - 1 : Nat) : Int) by have := wo.1; omega]
        exact ⟨some r, .ref qq, r.length - 1, _, _, rfl, G.trans G3, ⟨qq, rfl, h3⟩, by have := wo.2.1; omega, hr⟩
  · rintro env s ⟨b, d2, m, e4, e5, rfl, G, B, hm, hr⟩
    rw [List.length_map, List.drop_length, ringM] at hr
    have Gs := ((G1.trans (Grow.app s1 _)).trans G)
    walk_at "ev"
    cases b with
    | none =>
      have B : d2 = .non := B
      subst B
      walk_at "ev"
      have := hQ0 s Gs
      rw [hr] at this
      exact this
    | some r =>
      obtain ⟨qq, rfl, h3⟩ := B
      walk_at "ev"
      have hto : gTuple [.ref qq] s = some (.tup (r.map .int), s) := by
        unfold gTuple
        dsimp only
        rw [lstOf_lst h3]
        rfl
      rw [hto]
      walk_at "ev"
      have := hQ0 s Gs
      rw [hr] at this
      exact this
theorem ring_of_ok {W : Nat} (hW : 1000 ≤ W) (n : Nat) (st : Sto) {ps : Ps} (hl : ps.length ≤ 15) :
    ∃ s', runF tab W (n + 4) 4 [.tup (ps.map pD)] st = .ok (optD (ringP ps)) s' ∧ Grow st s' := by
  rw [runF_def (d := d_ring_of) W (n + 3) st rfl rfl]
  show ∃ s', SR.fin (evSs ⟨runF tab W (n + 3), W⟩ c_ring_of (startE 1 [.tup (ps.map pD)]) st) = _ ∧ _
  unfold c_ring_of
  walk_at "in"
  walk_at "ev"
  obtain ⟨s', e, G⟩ := ring_in_ok hW n st hl
  rw [e]
  walk_at "ev"
  exact ⟨s', rfl, G⟩
end K87
set_option Elab.async false
set_option linter.all false
set_option maxRecDepth 100000
set_option maxHeartbeats 1000000
namespace K87
open PySem PySem.Spec PyProof.Rows L2 FL M87
local macro_rules | `(tactic| walk_at "ev") => `(tactic| simp (config := {failIfUnchanged := false}) only [evSs_c, evSs_n, evS, evE, evEs, evEo, evT, evAnd, evOr, evIt, evTg, evTgs, evCo, bind_okR, toS_okR, noX_okR, seq_nx, seq_ret, seq_brk, seq_cnt, turn_nx, turn_cnt, turn_ret, turn_brk, fin_ret, fin_nx, ofO_some, br_t, br_f,
  List.getElem?_cons_zero, List.getElem?_cons_succ, List.set_cons_zero, List.set_cons_succ, Bop.g, Cop.g, Blt.g, Bm.g, get_app0, get_appN, set_app0, set_appN, List.length_append, List.length_cons, List.length_nil, List.append_assoc, List.cons_append, List.nil_append, Nat.zero_add, Nat.add_zero, line0, line1, line2, line3, line4, line5, line6, line7, line8, line9, if_true, FL.eq_int, FL.ne_int, FL.add_int, FL.sub_int, cmp_int, isN_non, notN_non, tr_bl, len_tup, D.isN, Bool.not_true, Bool.not_false, Tgs.len])
local macro_rules | `(tactic| walk_at "in") => `(tactic| simp only [startE, List.map_cons, List.map_nil, List.length_cons, List.length_nil, List.replicate, List.cons_append, List.nil_append, Nat.reduceSub, Nat.zero_add, Nat.reduceAdd])
/-! ### _law_draws -/
theorem pow_int {i j : Int} {st : Sto} (h1 : 0 ≤ j) (h2 : j ≤ 1000000) (h3 : i.natAbs < 2 ^ 64) : gPow (.int i) (.int j) st = some (.int (i ^ j.toNat), st) := by
  unfold gPow
  exact if_pos ⟨h1, h2, h3⟩
theorem abs_int (i : Int) (st : Sto) : gAbs [.int i] st = some (.int (if i < 0 then -i else i), st) := rfl
theorem int_int (i : Int) (st : Sto) : gInt [.int i] st = some (.int i, st) := rfl
theorem int_bl (b : Bool) (st : Sto) : gInt [.bl b] st = some (.int (if b then 1 else 0), st) := rfl
def Fits (outs lims : List Int) : Prop := outs.length = lims.length ∧ ∀ (i : Nat) o l, outs[i]? = some o → lims[i]? = some l → 0 ≤ o ∧ o < l
def draws_tail : Ss := .cons (.set 4 (.bin .mod (.bin .add (.bin .add (.bin .mul (.blt .int (.cons (.var 3) .nil)) (.int 48271)) (.bin .mul (.var 1) (.int 69621))) (.int 12345)) (.int 2147483647))) (.cons (.set 5 (.int 0)) (.cons (.ite (.cmp .ge (.var 3) (.bin .pow (.int 10) (.int 18))) (.cons (.set 5 (.var 3)) .nil) .nil) (.cons (.set 6 (.lst .nil)) (.cons (.for_ (.name 7) (.seq (.var 2)) (.cons (.ite (.cmp .gt (.var 5) (.int 0)) (.cons (.expr (.meth .append (.var 6) (.cons (.bin .mod (.blt .int (.cons (.var 5) .nil)) (.var 7)) .nil))) (.cons (.set 5 (.bin .div (.var 5) (.var 7))) .nil)) (.cons (.set 4 (.bin .mod (.bin .add (.bin .mul (.var 4) (.int 16807)) (.int 7919)) (.int 2147483647))) (.cons (.expr (.meth .append (.var 6) (.cons (.bin .mod (.bin .div (.var 4) (.int 131)) (.var 7)) .nil))) .nil))) .nil)) (.cons (.ret (.var 6)) .nil)))))
theorem draws_eq : c_law_draws = (.cons (.set 3 (.bin .add (.bin .mul (.int 977) (.var 1)) (.bin .mul (.int 31) (.blt .len (.cons (.var 0) .nil))))) (.cons (.ite (.cmp .lt (.var 1) (.blt .len (.cons (.var 0) .nil))) (.cons (.set 3 (.bin .add (.bin .mul (.int 2) (.blt .abs (.cons (.ix (.var 0) (.var 1)) .nil))) (.blt .int (.cons (.cmp .lt (.ix (.var 0) (.var 1)) (.int 0)) .nil)))) .nil) .nil) draws_tail)) := rfl
theorem fits_snoc {outs lims : List Int} {o l : Int} {i : Nat} (h : Fits outs (lims.take i)) (hl : lims[i]? = some l) (h1 : 0 ≤ o) (h2 : o < l) : Fits (outs ++ [o]) (lims.take (i + 1)) := by
  rw [take_snoc hl]
  refine ⟨by rw [List.length_append, List.length_append, h.1]; rfl, fun j a b ha hb => ?_⟩
  by_cases hj : j < outs.length
  · rw [List.getElem?_append_left hj] at ha
    rw [List.getElem?_append_left (h.1 ▸ hj)] at hb
    exact h.2 j a b ha hb
  · rw [List.getElem?_append_right (by omega)] at ha
    rw [List.getElem?_append_right (by have := h.1; omega), ← h.1] at hb
    cases hk : j - outs.length with
    | zero =>
      rw [hk] at ha hb
      cases ha
      cases hb
      exact ⟨h1, h2⟩
    | succ k =>
      rw [hk] at ha
      cases ha
theorem draws_tail_ok {W : Nat} (n : Nat) (st : Sto) {rs rl : Nat} {lims : List Int} {at_ cell : Int} (hl : st[rl]? = some (.lst (lims.map .int))) (hlen : lims.length ≤ 1000) (hW : 1000 ≤ W) (hpos : ∀ l ∈ lims, 0 < l ∧ l < 1073741824)
    (Q : Res D → Prop) (hQ : ∀ outs, Fits outs lims → Q (.ok (.ref st.length) (st ++ [intL outs]))) :
    Q (SR.fin (evSs ⟨runF tab W n, W⟩ draws_tail [some (.ref rs), some (.int at_), some (.ref rl), some (.int cell), none, none, none, none] st)) := by
  unfold draws_tail
  walk_at "ev"
  rw [int_int]
  walk_at "ev"
  rw [mul_r (i := cell) (j := 48271) (by decide)]
  walk_at "ev"
  rw [mul_r (i := at_) (j := 69621) (by decide)]
  walk_at "ev"
  rw [FL.mod_int (by decide)]
  walk_at "ev"
  rw [pow_int (by decide) (by decide) (by decide)]
  walk_at "ev"
  have main : ∀ s4 s5 : Int, Q ((SR.seq (.ok .nx [some (.ref rs), some (.int at_), some (.ref rl), some (.int cell), some (.int s4), some (.int s5), none, none] st) (evSs ⟨runF tab W n, W⟩ (.cons (.set 6 (.lst .nil)) (.cons (.for_ (.name 7) (.seq (.var 2)) (.cons (.ite (.cmp .gt (.var 5) (.int 0)) (.cons (.expr (.meth .append (.var 6) (.cons (.bin .mod (.blt .int (.cons (.var 5) .nil)) (.var 7)) .nil))) (.cons (.set 5 (.bin .div (.var 5) (.var 7))) .nil)) (.cons (.set 4 (.bin .mod (.bin .add (.bin .mul (.var 4) (.int 16807)) (.int 7919)) (.int 2147483647))) (.cons (.expr (.meth .append (.var 6) (.cons (.bin .mod (.bin .div (.var 4) (.int 131)) (.var 7)) .nil))) .nil))) .nil)) (.cons (.ret (.var 6)) .nil))))).fin) := by
    intro s4 s5
    walk_at "ev"
    rw [lstOf_lst (get_old hl)]
    walk_at "ev"
    refine for_live (lims.map .int) (fun i env s => ∃ s4 s5 e7 outs, env = [some (.ref rs), some (.int at_), some (.ref rl), some (.int cell), some (.int s4), some (.int s5), some (.ref st.length), e7] ∧ s = st ++ [intL outs] ∧ Fits outs (lims.take i)) (fun r => Q (r.seq _).fin) (by rw [List.length_map]; omega) ⟨s4, s5, none, [], rfl, rfl, rfl, fun i o l h => (nomatch h)⟩ ?_ ?_ ?_
    · rintro i env s hi ⟨s4, s5, e7, outs, rfl, rfl, hf⟩
      exact lstOf_lst (get_old hl)
    · rintro i z env s hi ⟨s4, s5, e7, outs, rfl, rfl, hf⟩
      rw [List.getElem?_map] at hi
      cases q : lims[i]? with
      | none => rw [q] at hi; cases hi
      | some l =>
        rw [q] at hi
        cases hi
        have hp := hpos l (List.mem_of_getElem? q)
        have hol : outs.length ≤ 1000 := by rw [hf.1, List.length_take]; omega
        have h0 : (st ++ [intL outs])[st.length]? = some (.lst (outs.map .int)) := by rw [get_app0]; rfl
        walk_at "ev"
        by_cases h5 : (0 : Int) < s5
        · rw [decide_eq_true h5]
          walk_at "ev"
          rw [if_pos (ty_app h0), int_int]
          walk_at "ev"
          rw [FL.mod_int hp.1]
          walk_at "ev"
          rw [app_lst h0 (by rw [List.length_map]; exact line_big (by omega))]
          walk_at "ev"
          rw [FL.div_int hp.1 hp.2]
          walk_at "ev"
          refine ⟨s4, _, _, outs ++ [s5 % l], rfl, ?_, fits_snoc hf q (Int.emod_nonneg _ (by omega)) (Int.emod_lt_of_pos _ hp.1)⟩
          rw [intL, List.map_append]
          rfl
        · rw [decide_eq_false h5]
          walk_at "ev"
          rw [mul_r (by decide)]
          walk_at "ev"
          rw [FL.mod_int (by decide)]
          walk_at "ev"
          rw [if_pos (ty_app h0), FL.div_int (by decide) (by decide)]
          walk_at "ev"
          rw [FL.mod_int hp.1]
          walk_at "ev"
          rw [app_lst h0 (by rw [List.length_map]; exact line_big (by omega))]
          walk_at "ev"
          refine ⟨_, s5, _, outs ++ [(s4 * 16807 + 7919) % 2147483647 / 131 % l], rfl, ?_, fits_snoc hf q (Int.emod_nonneg _ (by omega)) (Int.emod_lt_of_pos _ hp.1)⟩
          rw [intL, List.map_append]
          rfl
    · rintro env s ⟨s4, s5, e7, outs, rfl, rfl, hf⟩
      walk_at "ev"
      rw [List.length_map, List.take_length] at hf
      exact hQ outs hf
  cases decide ((10 : Int) ^ (18 : Int).toNat ≤ cell)
  · walk_at "ev"
    exact main _ _
  · walk_at "ev"
    exact main _ _
theorem draws_ok {W : Nat} (hW : 1000 ≤ W) (n : Nat) (st : Sto) {rs rl : Nat} {ns lims : List Int} {a : Nat} (hs : st[rs]? = some (.scr (ns.map .int))) (hl : st[rl]? = some (.lst (lims.map .int))) (hlen : lims.length ≤ 1000) (hpos : ∀ l ∈ lims, 0 < l ∧ l < 1073741824) :
    ∃ outs, runF tab W (n + 1) 5 [.ref rs, .int (a : Int), .ref rl] st = .ok (.ref st.length) (st ++ [intL outs]) ∧ Fits outs lims := by
  rw [runF_def (d := d_law_draws) W n st rfl rfl, show d_law_draws.body = _ from draws_eq, show d_law_draws.N.length = 8 from rfl]
  generalize hQ : (fun r => ∃ outs, r = .ok (.ref st.length) (st ++ [intL outs]) ∧ Fits outs lims : Res D → Prop) = Q
  have hQ0 : ∀ outs, Fits outs lims → Q (.ok (.ref st.length) (st ++ [intL outs])) := by
    intro outs h
    rw [← hQ]
    exact ⟨outs, rfl, h⟩
  suffices h : Q _ by
    rw [← hQ] at h
    exact h
  clear hQ
  walk_at "in"
  walk_at "ev"
  rw [mul_l (i := 977) (by decide)]
  walk_at "ev"
  rw [len_scr hs]
  walk_at "ev"
  rw [mul_l (i := 31) (by decide)]
  walk_at "ev"
  rw [len_scr hs]
  walk_at "ev"
  by_cases h : (a : Int) < ((ns.map D.int).length : Int)
  · rw [decide_eq_true h]
    walk_at "ev"
    have ha : a < ns.length := by rw [List.length_map] at h; omega
    have hat : L2.atI (ns.map D.int) (a : Int) = some (.int ns[a]) := L2.atI_nat (by rw [List.getElem?_map, List.getElem?_eq_getElem ha]; rfl)
    rw [ix_list (lstOf_scr hs) hat]
    walk_at "ev"
    rw [abs_int]
    walk_at "ev"
    rw [mul_l (i := 2) (by decide)]
    walk_at "ev"
    rw [ix_list (lstOf_scr hs) hat]
    walk_at "ev"
    rw [int_bl]
    walk_at "ev"
    exact draws_tail_ok n st hl hlen hW hpos Q hQ0
  · rw [decide_eq_false h]
    walk_at "ev"
    exact draws_tail_ok n st hl hlen hW hpos Q hQ0
/-! ### _law_steps_back -/
def SbOk (ps : Ps) (rp rr rf : Nat) (s0 : Sto) (far : Ps) (s : Sto) : Prop := Grow s0 s ∧ s[rr]? = some (intL (keys far)) ∧ s[rf]? = some (.dic (dicI far)) ∧ s0.length ≤ rr ∧ s0.length ≤ rf ∧ rr ≠ rf ∧ (keys far).Nodup
theorem steps_back_ok {W : Nat} (hW : 1000 ≤ W) (n : Nat) (st : Sto) {rp : Nat} {ps : Ps} (a b : Int) (hp : st[rp]? = some (.lst (ps.map pD))) (hl : ps.length ≤ 15) :
    ∃ s', runF tab W (n + 1) 7 [.ref rp, .int a, .int b] st = .ok (.int (stepsBack ps a b)) s' ∧ Grow st s' := by
  rw [runF_def (d := d_law_steps_back) W n st rfl rfl]
  show ∃ s', SR.fin (evSs ⟨runF tab W n, W⟩ c_law_steps_back (startE 7 [.ref rp, .int a, .int b]) st) = _ ∧ _
  generalize hQ : (fun r => ∃ s', r = .ok (.int (stepsBack ps a b)) s' ∧ Grow st s' : Res D → Prop) = Q
  have hQ0 : ∀ s', Grow st s' → Q (.ok (.int (stepsBack ps a b)) s') := by
    intro s' g
    rw [← hQ]
    exact ⟨s', rfl, g⟩
  suffices h : Q (SR.fin (evSs ⟨runF tab W n, W⟩ c_law_steps_back (startE 7 [.ref rp, .int a, .int b]) st)) by
    rw [← hQ] at h
    exact h
  clear hQ
  unfold c_law_steps_back
  walk_at "in"
  walk_at "ev"
  rw [show ((D.int a).key) = some (.inl a) from rfl]
  walk_at "ev"
  rw [if_pos ⟨by decide, by decide⟩]
  walk_at "ev"
  refine for_items (rngD 0 20) (fun i env s => ∃ far e5 e6, env = [some (.ref rp), some (.int a), some (.int b), some (.ref st.length), some (.ref (st.length + 1)), e5, e6] ∧ SbOk ps rp st.length (st.length + 1) st far s ∧ far.length ≤ 1 + 15 * i ∧ sbs ps 20 0 [(a, 0)] = sbs ps (20 - i) i far) (fun r => Q (r.seq _).fin) ⟨[(a, 0)], none, none, rfl, ?_, by simp, rfl⟩ ?_ ?_
  · refine ⟨Grow.app _ _, ?_, ?_, Nat.le_refl _, Nat.le_succ _, by omega, by simp [keys]⟩
    · rw [get_app0]
      rfl
    · rw [get_appN]
      rfl
  · rintro i z env s hi ⟨far, e5, e6, rfl, C, hlen, hr⟩
    rw [rngD_get] at hi
    split at hi
    · rename_i hi20
      cases hi
      obtain ⟨G, hrr, hrf, b1, b2, ne, nd⟩ := C
      walk_at "ev"
      rw [len_lst hrr]
      walk_at "ev"
      have hs1 : sbs ps ((20 - (i + 1)) + 1) i far = sbs ps (20 - (i + 1)) (i + 1) (sbK ps i far) := rfl
      rw [show 20 - i = (20 - (i + 1)) + 1 by omega, hs1] at hr
      unfold sbK at hr
      have hkl : (List.map D.int (keys far)).length = far.length := by rw [List.length_map]; unfold keys; rw [List.length_map]
      rw [hkl]
      cases q : far[i]? with
      | none =>
        have : far.length ≤ i := List.getElem?_eq_none_iff.mp q
        rw [decide_eq_false (by omega)]
        walk_at "ev"
        rw [q] at hr
        exact ⟨far, _, _, rfl, ⟨G, hrr, hrf, b1, b2, ne, nd⟩, by omega, hr⟩
      | some p =>
        obtain ⟨x, d⟩ := p
        have hlt := (List.getElem?_eq_some_iff.mp q).1
        rw [decide_eq_true (by omega)]
        walk_at "ev"
        rw [q] at hr
        have hr : sbs ps 20 0 [(a, 0)] = sbs ps (20 - (i + 1)) (i + 1) (ps.foldl (sbP x d) far) := hr
        rw [lstOf_lst (G.get hp)]
        walk_at "ev"
        refine for_live (ps.map pD) (fun j env s => ∃ far' e6, env = [some (.ref rp), some (.int a), some (.int b), some (.ref st.length), some (.ref (st.length + 1)), some (.int (0 + (i : Int))), e6] ∧ SbOk ps rp st.length (st.length + 1) st far' s ∧ far'.length ≤ 1 + 15 * i + j ∧ far'[i]? = some (x, d) ∧ ps.foldl (sbP x d) far = (ps.drop j).foldl (sbP x d) far') (fun r => TurnOk _ (fun r => Q (r.seq _).fin) ((r.seq _).seq _)) (by rw [List.length_map]; omega) ⟨far, e6, rfl, ⟨G, hrr, hrf, b1, b2, ne, nd⟩, by omega, q, rfl⟩ ?_ ?_ ?_
        · rintro j env s hj ⟨far', e6, rfl, C, hlen, hx, hf⟩
          exact lstOf_lst (C.1.get hp)
        · rintro j z env s hj ⟨far', e6, rfl, C, hlen, hx, hf⟩
          rw [List.getElem?_map] at hj
          cases q2 : ps[j]? with
          | none => rw [q2] at hj; cases hj
          | some p =>
            rw [q2] at hj
            cases hj
            have hjl := (List.getElem?_eq_some_iff.mp q2).1
            obtain ⟨G, hrr, hrf, b1, b2, ne, nd⟩ := C
            rw [drop_cons q2, List.foldl_cons] at hf
            rw [show pD p = D.tup [.int p.1, .int p.2] from rfl]
            walk_at "ev"
            have at0 : orG gIx gIxD (.tup [.int p.1, .int p.2]) (.int 0) s = some (.int p.1, s) := ix_tupl rfl
            have at1 : orG gIx gIxD (.tup [.int p.1, .int p.2]) (.int 1) s = some (.int p.2, s) := ix_tupl rfl
            have hki : (keys far')[i]? = some x := by unfold keys; rw [List.getElem?_map, hx]; rfl
            have atk : L2.atI ((keys far').map D.int) (i : Int) = some (.int x) := L2.atI_nat (by rw [List.getElem?_map, hki]; rfl)
            rw [Int.zero_add]
            rw [at0]
            walk_at "ev"
            rw [ix_list (lstOf_lst hrr) atk]
            walk_at "ev"
            by_cases hpx : p.1 = x
            · rw [show (p.1 == x) = true from beq_iff_eq.mpr hpx]
              walk_at "ev"
              rw [at1]
              walk_at "ev"
              rw [nin_dic hrf (k := .int p.2) rfl, dicI_some]
              by_cases hpk : p.2 ∈ keys far'
              · rw [decide_eq_true hpk]
                walk_at "ev"
                have e : sbP x d far' p = far' := by
                  unfold sbP
                  rw [if_neg fun z => z.2 hpk]
                rw [e] at hf
                exact ⟨far', _, rfl, ⟨G, hrr, hrf, b1, b2, ne, nd⟩, by omega, hx, hf⟩
              · rw [decide_eq_false hpk]
                walk_at "ev"
                have e : sbP x d far' p = far' ++ [(p.2, d + 1)] := by
                  unfold sbP
                  rw [if_pos ⟨hpx, hpk⟩]
                rw [e] at hf
                rw [ix_list (lstOf_lst hrr) atk]
                walk_at "ev"
                rw [ix_dic hrf (k := .int x) rfl (by rw [dicI_val, look_get nd hx]; rfl)]
                walk_at "ev"
                rw [at1]
                walk_at "ev"
                rw [put_dic hrf (k := .int p.2) rfl (by unfold dicI; rw [List.length_map]; exact line_big (by omega)), dicI_put _ hpk]
                walk_at "ev"
                have hrr2 : (s.set (st.length + 1) (.dic (dicI (far' ++ [(p.2, d + 1)]))))[st.length]? = some (.lst ((keys far').map .int)) := by
                  rw [List.getElem?_set_ne (by omega)]
                  exact hrr
                rw [if_pos (ty_app hrr2)]
                have at2 : ∀ s, orG gIx gIxD (.tup [.int p.1, .int p.2]) (.int 1) s = some (.int p.2, s) := fun s => ix_tupl rfl
                rw [at2]
                walk_at "ev"
                rw [app_lst hrr2 (by rw [List.length_map]; unfold keys; rw [List.length_map]; exact line_big (by omega))]
                walk_at "ev"
                have l1 := lt_of_get hrf
                have l2 := lt_of_get hrr
                refine ⟨_, _, rfl, ⟨(G.set b2 _).set b1 _, ?_, ?_, b1, b2, ne, ?_⟩, ?_, ?_, hf⟩
                · rw [List.getElem?_set_self (by rw [List.length_set]; exact l2), keys_snoc, intL, List.map_append]
                  rfl
                · rw [List.getElem?_set_ne (by omega), List.getElem?_set_self l1]
                · rw [keys_snoc, List.nodup_append]
                  refine ⟨nd, by simp, ?_⟩
                  intro y hy z hz e
                  cases List.mem_singleton.mp hz
                  subst e
                  exact hpk hy
                · rw [List.length_append, List.length_cons, List.length_nil]
                  omega
                · rw [List.getElem?_append_left (List.getElem?_eq_some_iff.mp hx).1]
                  exact hx
            · rw [show (p.1 == x) = false from beq_eq_false_iff_ne.mpr hpx]
              walk_at "ev"
              have e : sbP x d far' p = far' := by
                unfold sbP
                rw [if_neg fun z => hpx z.1]
              rw [e] at hf
              exact ⟨far', _, rfl, ⟨G, hrr, hrf, b1, b2, ne, nd⟩, by omega, hx, hf⟩
        · rintro env s ⟨far', e6, rfl, C, hlen, hx, hf⟩
          walk_at "ev"
          rw [List.length_map] at hlen
          rw [List.length_map, List.drop_length] at hf
          have hf : ps.foldl (sbP x d) far = far' := hf
          rw [hf] at hr
          exact ⟨far', _, _, rfl, C, by omega, hr⟩
    · cases hi
  · rintro env s ⟨far, e5, e6, rfl, ⟨G, hrr, hrf, b1, b2, ne, nd⟩, hlen, hr⟩
    rw [rngD_len] at hr
    have hr : sbs ps 20 0 [(a, 0)] = far := hr
    walk_at "ev"
    rw [if_pos (ty_get2 hrf)]
    walk_at "ev"
    have hg : gGet2 (.ref (st.length + 1)) [.int b, .int 99] s = some (.int (stepsBack ps a b), s) := by
      unfold gGet2 D.key
      dsimp only
      rw [hrf]
      dsimp only
      rw [dicI_val]
      unfold stepsBack
      rw [hr]
      cases look far b <;> rfl
    rw [hg]
    walk_at "ev"
    exact hQ0 s G
end K87
set_option Elab.async false
set_option linter.all false
set_option maxRecDepth 100000
set_option maxHeartbeats 1000000
namespace K87
open PySem PySem.Spec PyProof.Rows L2 FL M87
theorem wipe1 (env : En) (x : Str) (n : Nat) : wipeE env (List.map (fun p : Str × Nat => p.snd) [(x, n)]) = env.set n none := rfl
theorem tn_tuple : tyName "tuple" = some "tuple" := rfl
theorem tn_int : tyName "int" = some "int" := rfl
theorem tn_bool : tyName "bool" = some "bool" := rfl
theorem tn_str : tyName "str" = some "str" := rfl
theorem isi_tup (ds : List D) (st : Sto) : gIsi "tuple" (.tup ds) st = some (.bl true, st) := rfl
theorem isi_iT (i : Int) (st : Sto) : gIsi "tuple" (.int i) st = some (.bl false, st) := rfl
theorem isi_iS (i : Int) (st : Sto) : gIsi "str" (.int i) st = some (.bl false, st) := rfl
theorem isi_iB (i : Int) (st : Sto) : gIsi "bool" (.int i) st = some (.bl false, st) := rfl
theorem isi_iI (i : Int) (st : Sto) : gIsi "int" (.int i) st = some (.bl true, st) := rfl
theorem isi_nT (st : Sto) : gIsi "tuple" .non st = some (.bl false, st) := rfl
local macro_rules | `(tactic| walk_at "ev") => `(tactic| simp (config := {failIfUnchanged := false}) only [evSs_c, evSs_n, evS, evE, evEs, evEo, evT, evAnd, evOr, evIt, evTg, evTgs, evCo, bind_okR, toS_okR, noX_okR, seq_nx, seq_ret, seq_brk, seq_cnt, turn_nx, turn_cnt, turn_ret, turn_brk, fin_ret, fin_nx, ofO_some, br_t, br_f,
  List.getElem?_cons_zero, List.getElem?_cons_succ, List.set_cons_zero, List.set_cons_succ, Bop.g, Cop.g, Blt.g, Bm.g, get_app0, get_appN, set_app0, set_appN, List.length_append, List.length_cons, List.length_nil, List.append_assoc, List.cons_append, List.nil_append, Nat.zero_add, Nat.add_zero, line0, line1, line2, line3, line4, line5, line6, line7, line8, line9, if_true, FL.eq_int, FL.ne_int, FL.add_int, FL.sub_int, cmp_int, isN_non, notN_non, tr_bl, len_tup, D.isN, Bool.not_true, Bool.not_false, Tgs.len, tn_tuple, tn_int, tn_bool, tn_str, isi_tup, isi_iT, isi_iS, isi_iB, isi_iI, isi_nT, wipe1])
local macro_rules | `(tactic| walk_at "in") => `(tactic| simp only [startE, List.map_cons, List.map_nil, List.length_cons, List.length_nil, List.replicate, List.cons_append, List.nil_append, Nat.reduceSub, Nat.zero_add, Nat.reduceAdd])
/-! ### comprehensions without a test -/
theorem lc_map {src : Src} {body : D → Sto → Res (Option D)} {st0 : Sto} (ds : List D) (R : Nat → D → Prop) (Q : Res D → Prop)
    (hsrc : ∀ i s, i ≤ ds.length → Grow st0 s → src.get i s = some ds[i]?) (hn : ds.length ≤ src.n) (hlen : ds.length ≤ 1000)
    (hb : ∀ i x s, ds[i]? = some x → Grow st0 s → ∃ d s1, body x s = .ok (some d) s1 ∧ Grow s s1 ∧ R i d)
    (he : ∀ outs s, Grow st0 s → s[st0.length]? = some (.lst outs) → outs.length = ds.length → (∀ i d, outs[i]? = some d → R i d) → Q (.ok (.ref st0.length) s)) :
    Q (lcGo src body st0.length src.n 0 (st0 ++ [.lst []])) := by
  refine lc_rule ds (fun i s => Grow st0 s ∧ ∃ outs, s[st0.length]? = some (.lst outs) ∧ outs.length = i ∧ ∀ j d, outs[j]? = some d → R j d) Q (fun i s hi p => hsrc i s hi p.1) ?_ ?_ _ _ _ (by omega) (Nat.zero_le _) ⟨Grow.app _ _, [], ?_, rfl, fun j d h => (nomatch h)⟩
  · rintro i x s hx ⟨G, outs, h1, h2, h3⟩
    obtain ⟨d, s1, e, G1, r⟩ := hb i x s hx G
    have hi := (List.getElem?_eq_some_iff.mp hx).1
    refine ⟨some d, s1, e, outs, G1.get h1, line_big (by omega), (G.trans G1).set (Nat.le_refl _) _, outs ++ [d], ?_, ?_, ?_⟩
    · rw [List.getElem?_set_self (lt_of_get (G1.get h1))]
    · rw [List.length_append, h2]
      rfl
    · intro j z hz
      by_cases hj : j < outs.length
      · rw [List.getElem?_append_left hj] at hz
        exact h3 j z hz
      · rw [List.getElem?_append_right (by omega)] at hz
        cases hk : j - outs.length with
        | zero =>
          rw [hk] at hz
          cases hz
          have : j = i := by omega
          rw [this]
          exact r
        | succ k =>
          rw [hk] at hz
          cases hz
  · rintro s ⟨G, outs, h1, h2, h3⟩
    exact he outs s G h1 h2 h3
  · rw [get_app0]
    rfl
theorem blsOf_rep (n : Nat) : blsOf (List.replicate n (.bl true)) = some (List.replicate n true) := by
  induction n with
  | zero => rfl
  | succ n ih =>
    rw [List.replicate_succ, blsOf, ih]
    rfl
theorem all_true {outs : List D} {s : Sto} {r : Nat} (h : s[r]? = some (.lst outs)) (ho : ∀ (i : Nat) (d : D), outs[i]? = some d → d = D.bl true) : gAll [.ref r] s = some (.bl true, s) := by
  have e : outs = List.replicate outs.length (.bl true) := by
    rw [List.eq_replicate_iff]
    refine ⟨rfl, fun d hd => ?_⟩
    obtain ⟨i, hi⟩ := List.getElem?_of_mem hd
    exact ho i d hi
  unfold gAll
  dsimp only
  rw [lstOf_lst h, Option.bind_some, e, blsOf_rep]
  show some (D.bl ((List.replicate _ true).all id), s) = _
  congr 3
  rw [List.all_eq_true]
  intro b hb
  exact List.eq_of_mem_replicate hb
/-! ### _law_same -/
theorem same_int (W n : Nat) (i : Int) (st : Sto) : runF tab W (n + 1) 6 [.int i, .int i] st = .ok (.bl true) st := by
  rw [runF_def (d := d_law_same) W n st rfl rfl]
  show SR.fin (evSs ⟨runF tab W n, W⟩ c_law_same (startE 3 [.int i, .int i]) st) = _
  unfold c_law_same
  walk_at "in"
  walk_at "ev"
  rw [show (i == i) = true from beq_self_eq_true i]
theorem same_tup {W : Nat} (n : Nat) (r : List Int) (st : Sto) (hr : r.length ≤ 1000) : ∃ s', runF tab W (n + 2) 6 [.tup (r.map .int), .tup (r.map .int)] st = .ok (.bl true) s' ∧ Grow st s' := by
  rw [runF_def (d := d_law_same) W (n + 1) st rfl rfl]
  show ∃ s', SR.fin (evSs ⟨runF tab W (n + 1), W⟩ c_law_same (startE 3 [.tup (r.map .int), .tup (r.map .int)]) st) = _ ∧ _
  generalize hQ : (fun r => ∃ s', r = .ok (.bl true) s' ∧ Grow st s' : Res D → Prop) = Q
  have hQ0 : ∀ s', Grow st s' → Q (.ok (.bl true) s') := by
    intro s' g
    rw [← hQ]
    exact ⟨s', rfl, g⟩
  suffices h : Q (SR.fin (evSs ⟨runF tab W (n + 1), W⟩ c_law_same (startE 3 [.tup (r.map .int), .tup (r.map .int)]) st)) by
    rw [← hQ] at h
    exact h
  clear hQ
  unfold c_law_same
  walk_at "in"
  walk_at "ev"
  rw [show (((List.map D.int r).length : Int) == ((List.map D.int r).length : Int)) = true from beq_self_eq_true _]
  walk_at "ev"
  rw [if_pos ⟨by rw [List.length_map]; omega, by rw [List.length_map]; omega⟩]
  walk_at "ev"
  refine lc_map (rngD 0 ((List.map D.int r).length : Int).toNat) (fun _ d => d = .bl true) (fun x => Q (((((x.bind _).bind _).toS _ _).seq _).seq _).fin) (fun _ _ _ _ => rfl) (Nat.le_refl _) (by rw [rngD_len, List.length_map]; omega) ?_ ?_
  · intro i x s hx G
    rw [rngD_get] at hx
    split at hx
    · rename_i hi
      cases hx
      have hi : i < r.length := by rw [List.length_map] at hi; omega
      have hat : L2.atI (r.map D.int) (i : Int) = some (.int r[i]) := L2.atI_nat (by rw [List.getElem?_map, List.getElem?_eq_getElem hi]; rfl)
      walk_at "ev"
      rw [Int.zero_add]
      rw [ix_tupl hat]
      walk_at "ev"
      rw [ix_tupl hat]
      walk_at "ev"
      rw [same_int]
      walk_at "ev"
      exact ⟨_, _, rfl, Grow.refl _, rfl⟩
    · cases hx
  · intro outs s G h1 h2 h3
    walk_at "ev"
    rw [all_true h1 h3]
    walk_at "ev"
    exact hQ0 s G
/-! ### a pair in the list of pairs -/
theorem pyL_ps (ps : Ps) : D.pyL (ps.map pD) = some (ps.map fun p => .tuple [.int p.1, .int p.2]) := by
  induction ps with
  | nil => rfl
  | cons p r ih =>
    rw [List.map_cons, D.pyL, ih]
    rfl
theorem lay_ps (ps : Ps) : PyData.canLayAll0 (ps.map fun p => PyData.tuple [.int p.1, .int p.2]) = true ∧ PyData.depthAll (ps.map fun p => PyData.tuple [.int p.1, .int p.2]) ≤ 1 := by
  induction ps with
  | nil => exact ⟨rfl, Nat.zero_le _⟩
  | cons p r ih =>
    rw [List.map_cons]
    refine ⟨?_, ?_⟩
    · rw [PyData.canLayAll0, ih.1]
      rfl
    · rw [PyData.depthAll]
      exact Nat.max_le.mpr ⟨Nat.le_refl _, ih.2⟩
theorem in_ps {s : Sto} {rp : Nat} {ps : Ps} {p : Int × Int} (hp : s[rp]? = some (.lst (ps.map pD))) (h : p ∈ ps) : orG gInD gIn (.tup [.int p.1, .int p.2]) (.ref rp) s = some (.bl true, s) := by
  have e : gInD (.tup [.int p.1, .int p.2]) (.ref rp) s = none := by
    unfold gInD
    dsimp only
    rw [hp]
  unfold orG
  rw [e]
  unfold gIn
  have e1 : pyTop s (.ref rp) = some (.list (ps.map fun p => .tuple [.int p.1, .int p.2])) := by
    unfold pyTop
    dsimp only
    rw [hp]
    dsimp only
    rw [pyL_ps]
    rfl
  have e2 : D.py (.tup [.int p.1, .int p.2]) = some (.tuple [.int p.1, .int p.2]) := rfl
  rw [e1, e2]
  dsimp only
  have l := lay_ps ps
  have s1 : SeqAt.shaped (.tuple [.int p.1, .int p.2]) = true := rfl
  have s2 : SeqAt.shaped (.list (ps.map fun p => .tuple [.int p.1, .int p.2])) = true := by
    unfold SeqAt.shaped
    rw [PyData.canLay0, PyData.depth, l.1, Bool.true_and, decide_eq_true (by have := l.2; omega)]
  rw [s1, s2]
  have e3 : ((ps.map fun p => PyData.tuple [.int p.1, .int p.2]).any fun z => PyData.eqv z (.tuple [.int p.1, .int p.2])) = true := by
    rw [List.any_eq_true]
    refine ⟨_, List.mem_map.mpr ⟨p, h, rfl⟩, ?_⟩
    show ((p.1 == p.1) && ((p.2 == p.2) && true)) = true
    simp
  rw [e3]
  rfl
end K87
set_option Elab.async false
set_option linter.all false
set_option maxRecDepth 100000
set_option maxHeartbeats 1000000
namespace K87
open PySem PySem.Spec PyProof.Rows L2 FL M87
local macro_rules | `(tactic| walk_at "ev") => `(tactic| simp (config := {failIfUnchanged := false}) only [evSs_c, evSs_n, evS, evE, evEs, evEo, evT, evAnd, evOr, evIt, evTg, evTgs, evCo, bind_okR, toS_okR, noX_okR, seq_nx, seq_ret, seq_brk, seq_cnt, turn_nx, turn_cnt, turn_ret, turn_brk, fin_ret, fin_nx, ofO_some, br_t, br_f,
  List.getElem?_cons_zero, List.getElem?_cons_succ, List.set_cons_zero, List.set_cons_succ, Bop.g, Cop.g, Blt.g, Bm.g, get_app0, get_appN, set_app0, set_appN, List.length_append, List.length_cons, List.length_nil, List.append_assoc, List.cons_append, List.nil_append, Nat.zero_add, Nat.add_zero, line0, line1, line2, line3, line4, line5, line6, line7, line8, line9, if_true, FL.eq_int, FL.ne_int, FL.add_int, FL.sub_int, cmp_int, isN_non, notN_non, tr_bl, len_tup, D.isN, Bool.not_true, Bool.not_false, Tgs.len, tn_tuple, tn_int, tn_bool, tn_str, isi_tup, isi_iT, isi_iS, isi_iB, isi_iI, isi_nT, wipe1])
local macro_rules | `(tactic| walk_at "in") => `(tactic| simp only [startE, List.map_cons, List.map_nil, List.length_cons, List.length_nil, List.replicate, List.cons_append, List.nil_append, Nat.reduceSub, Nat.zero_add, Nat.reduceAdd])
def law_t3 : Ss := (.cons (.ite (.cmp .eq (.var 6) (.int 99)) (.cons (.ret (.and2 (.cmp .isN (.var 7) .non) (.one (.cmp .isN (.call 4 (.cons (.blt .tuple (.cons (.var 5) .nil)) .nil)) .non)))) .nil) .nil) (.cons (.ite (.or (.cons (.not (.val (.isi (.var 7) "tuple"))) (.one (.cmp .ne (.blt .len (.cons (.var 7) .nil)) (.var 6))))) (.cons (.ret (.bl false)) .nil) .nil) (.cons (.ite (.not (.val (.blt .all (.cons (.lc (.and2 (.isi (.var 10) "int") (.one (.notv (.isi (.var 10) "bool")))) (.name 10) (.seq (.var 7)) .no [("n", 10)]) .nil)))) (.cons (.ret (.bl false)) .nil) .nil) (.cons (.ite (.not (.val (.blt .all (.cons (.lc (.cmp .inn (.tup (.cons (.ix (.var 7) (.bin .sub (.var 8) (.int 1))) (.cons (.ix (.var 7) (.var 8)) .nil))) (.var 5)) (.name 8) (.rng1 (.var 6)) .no [("k", 8)]) .nil)))) (.cons (.ret (.bl false)) .nil) .nil) (.cons (.ret (.call 6 (.cons (.call 4 (.cons (.blt .tuple (.cons (.blt .list (.cons (.var 5) .nil)) .nil)) .nil)) (.cons (.var 7) .nil)))) .nil)))))
def law_t2 : Ss := (.cons (.set 6 (.blt .min1 (.cons (.bin .add (.lst (.cons (.int 99) .nil)) (.lc (.bin .add (.call 7 (.cons (.var 5) (.cons (.ix (.var 9) (.int 1)) (.cons (.ix (.var 9) (.int 0)) .nil)))) (.int 1)) (.name 9) (.seq (.var 5)) .no [("pair", 9)])) .nil))) (.cons (.set 7 (.call 4 (.cons (.blt .tuple (.cons (.var 5) .nil)) .nil))) law_t3))
def law_t1b : Ss := (.cons (.ite (.and (.cons (.cmp .eq (.ix (.var 1) (.int 2)) (.int 2)) (.one (.cmp .gt (.ix (.var 1) (.int 0)) (.int 1))))) (.cons (.set 5 (.bin .add (.var 5) (.sl (.var 5) .no (.yes (.int 1))))) .nil) .nil) law_t2)
def law_t1 : Ss := (.cons (.ite (.cmp .eq (.ix (.var 1) (.int 2)) (.int 1)) (.cons (.set 5 (.lc (.tup (.cons (.ix (.var 2) (.bin .mod (.var 8) (.var 3))) (.cons (.ix (.var 2) (.bin .mod (.bin .add (.var 8) (.int 1)) (.var 3))) .nil))) (.name 8) (.rng1 (.ix (.var 1) (.int 0))) .no [("k", 8)])) .nil) .nil) law_t1b)
theorem law_eq : c_law = (.cons (.set 1 (.call 5 (.cons (.var 0) (.cons (.int 0) (.cons (.lst (.cons (.int 15) (.cons (.int 8) (.cons (.int 3) (.cons (.int 1000) .nil))))) .nil))))) (.cons (.set 2 (.lst (.cons (.int 0) (.cons (.int 1) (.cons (.int 2) (.cons (.bin .add (.bin .pow (.int 10) (.int 20)) (.int 1)) (.cons (.int 7) (.cons (.bin .pow (.int 10) (.int 20)) (.cons (.int 3) (.cons (.int 12) (.cons (.ix (.var 1) (.int 3)) .nil))))))))))) (.cons (.set 3 (.bin .add (.int 2) (.ix (.var 1) (.int 1)))) (.cons (.set 4 (.call 5 (.cons (.var 0) (.cons (.int 1) (.cons (.bin .mul (.lst (.cons (.int 5040) (.cons (.int 5040) .nil))) (.int 14)) .nil))))) (.cons (.set 5 (.lc (.tup (.cons (.ix (.var 2) (.bin .mod (.ix (.var 4) (.bin .mul (.int 2) (.var 8))) (.var 3))) (.cons (.ix (.var 2) (.bin .mod (.ix (.var 4) (.bin .add (.bin .mul (.int 2) (.var 8)) (.int 1))) (.var 3))) .nil))) (.name 8) (.rng1 (.ix (.var 1) (.int 0))) .no [("k", 8)])) law_t1))))) := rfl
def Tru (r : Res D) : Prop := ∃ s', r = .ok (.bl true) s'
theorem tru_ok (s : Sto) : Tru (.ok (.bl true) s) := ⟨s, rfl⟩
theorem tup_lst {s : Sto} {r : Nat} {ds : List D} (h : s[r]? = some (.lst ds)) : gTuple [.ref r] s = some (.tup ds, s) := by
  unfold gTuple
  dsimp only
  rw [lstOf_lst h]
  rfl
theorem list_lst {s : Sto} {r : Nat} {ds : List D} (h : s[r]? = some (.lst ds)) : gList [.ref r] s = some (.ref s.length, s ++ [.lst ds]) := by
  unfold gList
  dsimp only
  rw [h]
theorem t3_none {W : Nat} (hW : 1000 ≤ W) (n : Nat) (st : Sto) {rp : Nat} {ps : Ps} {e0 e1 e2 e3 e4 e8 e9 e10 : Option D} (hp : st[rp]? = some (.lst (ps.map pD))) (hl : ps.length ≤ 15) (hr : ringP ps = none) :
    Tru (SR.fin (evSs ⟨runF tab W (n + 4), W⟩ law_t3 [e0, e1, e2, e3, e4, some (.ref rp), some (.int 99), some .non, e8, e9, e10] st)) := by
  unfold law_t3
  walk_at "ev"
  rw [show ((99 : Int) == 99) = true from rfl]
  walk_at "ev"
  rw [tup_lst hp]
  walk_at "ev"
  obtain ⟨s', e, G⟩ := ring_of_ok hW n st hl
  rw [e, hr]
  simp only [optD]
  walk_at "ev"
  exact tru_ok _
theorem t3_some {W : Nat} (hW : 1000 ≤ W) (n : Nat) (st : Sto) {rp : Nat} {ps : Ps} {r : List Int} {e0 e1 e2 e3 e4 e8 e9 e10 : Option D} (hp : st[rp]? = some (.lst (ps.map pD))) (hl : ps.length ≤ 15) (hr : ringP ps = some r) (hR : Ring ps r) (hr16 : r.length ≤ 16) :
    Tru (SR.fin (evSs ⟨runF tab W (n + 4), W⟩ law_t3 [e0, e1, e2, e3, e4, some (.ref rp), some (.int (r.length : Nat)), some (.tup (r.map .int)), e8, e9, e10] st)) := by
  unfold law_t3
  walk_at "ev"
  have h99 : ((r.length : Int) == 99) = false := beq_eq_false_iff_ne.mpr (by omega)
  rw [h99]
  walk_at "ev"
  rw [show (((List.map D.int r).length : Int) == (r.length : Int)) = true by rw [List.length_map]; exact beq_self_eq_true _]
  walk_at "ev"
  refine lc_map (r.map D.int) (fun _ d => d = .bl true) (fun x => Tru (((((((x.bind _).bind _).bind _).bind _).toS _ _).seq _).fin)) (fun _ _ _ _ => rfl) (Nat.le_refl _) (by rw [List.length_map]; omega) ?_ ?_
  · intro i x s hx G
    rw [List.getElem?_map] at hx
    cases q : r[i]? with
    | none => rw [q] at hx; cases hx
    | some y =>
      rw [q] at hx
      cases hx
      walk_at "ev"
      exact ⟨_, _, rfl, Grow.refl _, rfl⟩
  intro outs s2 G2 h1 h2 h3
  walk_at "ev"
  rw [all_true h1 h3]
  walk_at "ev"
  rw [if_pos ⟨by omega, by omega⟩]
  walk_at "ev"
  have h0 : 0 < r.length := by
    cases r with
    | nil => exact absurd rfl hR.1
    | cons _ _ => exact Nat.succ_pos _
  have hp2 := G2.get hp
  refine lc_map (rngD 0 (r.length : Int).toNat) (fun _ d => d = .bl true) (fun x => Tru (((((((x.bind _).bind _).bind _).bind _).toS _ _).seq _).fin)) (fun _ _ _ _ => rfl) (Nat.le_refl _) (by rw [rngD_len]; omega) ?_ ?_
  · intro i x s hx G
    rw [rngD_get] at hx
    split at hx
    · rename_i hi
      cases hx
      have hi : i < r.length := by omega
      have hat : L2.atI (r.map D.int) (i : Int) = some (.int r[i]) := L2.atI_nat (by rw [List.getElem?_map, List.getElem?_eq_getElem hi]; rfl)
      walk_at "ev"
      rw [Int.zero_add]
      have hat0 : ∃ a, L2.atI (r.map D.int) ((i : Int) - 1) = some (.int a) ∧ (a, r[i]) ∈ ps := by
        cases i with
        | zero =>
          refine ⟨r[r.length - 1], ?_, hR.2.2 _ _ (List.getElem?_eq_getElem _) (List.getElem?_eq_getElem _)⟩
          have e : r = r.dropLast ++ [r[r.length - 1]] := by
            conv => lhs; rw [← List.dropLast_concat_getLast hR.1, List.getLast_eq_getElem]
          have e2 : r.map D.int = r.dropLast.map D.int ++ [.int r[r.length - 1]] := by
            conv => lhs; rw [e, List.map_append]
            rfl
          rw [e2]
          exact atI_last _ _
        | succ i =>
          refine ⟨r[i], ?_, hR.2.1 i _ _ (List.getElem?_eq_getElem _) (List.getElem?_eq_getElem _)⟩
          rw [show ((i + 1 : Nat) : Int) - 1 = (i : Int) by omega]
          exact L2.atI_nat (by rw [List.getElem?_map, List.getElem?_eq_getElem (by omega)]; rfl)
      obtain ⟨a, ha, hm⟩ := hat0
      rw [ix_tupl ha]
      walk_at "ev"
      rw [ix_tupl hat]
      walk_at "ev"
      rw [if_pos (line_le (by decide))]
      walk_at "ev"
      rw [in_ps (p := (a, r[i])) (G.get hp2) hm]
      walk_at "ev"
      exact ⟨_, _, rfl, Grow.refl _, rfl⟩
    · cases hx
  intro outs s3 G3 h1 h2 h3
  walk_at "ev"
  rw [all_true h1 h3]
  walk_at "ev"
  have hp3 := G3.get hp2
  rw [list_lst hp3]
  walk_at "ev"
  rw [tup_lst (ds := ps.map pD) (by rw [get_app0]; rfl)]
  walk_at "ev"
  obtain ⟨s', e, G⟩ := ring_of_ok hW n (s3 ++ [O.lst (ps.map pD)]) hl
  rw [e, hr]
  simp only [optD]
  walk_at "ev"
  obtain ⟨s5, e5, G5⟩ := same_tup (W := W) (n + 2) r s' (by omega)
  rw [e5]
  walk_at "ev"
  exact tru_ok _
/-! the least -/
theorem intsOf_map (l : List Int) : intsOf (l.map .int) = some l := by
  induction l with
  | nil => rfl
  | cons x r ih =>
    rw [List.map_cons, intsOf, ih]
    rfl
theorem t2_ok {W : Nat} (hW : 1000 ≤ W) (n : Nat) (st : Sto) {rp : Nat} {ps : Ps} {e0 e1 e2 e3 e4 e8 e9 e10 : Option D} (hp : st[rp]? = some (.lst (ps.map pD))) (hl : ps.length ≤ 15) :
    Tru (SR.fin (evSs ⟨runF tab W (n + 4), W⟩ law_t2 [e0, e1, e2, e3, e4, some (.ref rp), none, none, e8, e9, e10] st)) := by
  unfold law_t2
  walk_at "ev"
  rw [lstOf_lst (get_old hp)]
  walk_at "ev"
  rw [show st ++ [O.lst [.int 99], O.lst []] = (st ++ [O.lst [.int 99]]) ++ [O.lst []] by rw [List.append_assoc]; rfl, show st.length + 1 = (st ++ [O.lst [.int 99]]).length by rw [List.length_append]; rfl]
  refine lc_map (src := Src.live W rp) (st0 := st ++ [O.lst [.int 99]]) (ps.map pD) (fun i d => ∀ p, ps[i]? = some p → d = .int (stepsBack ps p.2 p.1 + 1)) (fun x => Tru ((((((x.bind _).bind _).bind _).toS _ _).seq _).fin)) (fun i s hi G => ?_) (by rw [List.length_map]; show ps.length ≤ W; omega) (by rw [List.length_map]; omega) ?_ ?_
  · show (lstOf s rp).map _ = _
    rw [lstOf_lst (G.get (get_old hp))]
    rfl
  · intro i x s hx G
    rw [List.getElem?_map] at hx
    cases q : ps[i]? with
    | none => rw [q] at hx; cases hx
    | some p =>
      rw [q] at hx
      cases hx
      rw [show pD p = D.tup [.int p.1, .int p.2] from rfl]
      walk_at "ev"
      have at0 : ∀ s, orG gIx gIxD (.tup [.int p.1, .int p.2]) (.int 0) s = some (.int p.1, s) := fun s => ix_tupl rfl
      have at1 : ∀ s, orG gIx gIxD (.tup [.int p.1, .int p.2]) (.int 1) s = some (.int p.2, s) := fun s => ix_tupl rfl
      rw [at1]
      walk_at "ev"
      rw [at0]
      walk_at "ev"
      obtain ⟨s', e, G'⟩ := steps_back_ok hW (n + 3) s p.2 p.1 (G.get (get_old hp)) hl
      rw [e]
      walk_at "ev"
      exact ⟨_, _, rfl, G', fun p' e => by cases e; rfl⟩
  intro outs s2 G2 h1 h2 h3
  have ho : outs = (ps.map fun p => stepsBack ps p.2 p.1 + 1).map .int := by
    apply List.ext_getElem?
    intro i
    rw [List.map_map, List.getElem?_map]
    cases q : ps[i]? with
    | none =>
      rw [List.getElem?_eq_none_iff] at q
      rw [List.length_map] at h2
      exact List.getElem?_eq_none (by omega)
    | some p =>
      have hi := (List.getElem?_eq_some_iff.mp q).1
      rw [List.length_map] at h2
      rw [List.getElem?_eq_getElem (by omega)]
      have := h3 i _ (List.getElem?_eq_getElem (by omega)) p q
      rw [this]
      rfl
  subst ho
  walk_at "ev"
  have h99 : s2[st.length]? = some (.lst ([99].map .int)) := by
    have := G2.get (r := st.length) (o := .lst [.int 99]) (by rw [get_app0]; rfl)
    exact this
  rw [List.length_append, List.length_cons, List.length_nil, Nat.zero_add] at h1
  have hadd : gAdd (.ref st.length) (.ref (st.length + 1)) s2 = some (.ref s2.length, s2 ++ [.lst ((99 :: ps.map fun p => stepsBack ps p.2 p.1 + 1).map .int)]) := by
    unfold gAdd
    dsimp only
    rw [h99, h1]
    dsimp only
    rw [if_pos]
    · rfl
    · rw [List.length_map, List.length_map, List.length_map]
      exact line_le (by rw [List.length_cons, List.length_nil]; omega)
  rw [hadd]
  walk_at "ev"
  have hmin : gMin [.ref s2.length] (s2 ++ [.lst ((99 :: ps.map fun p => stepsBack ps p.2 p.1 + 1).map .int)]) = some (.int (minI 99 (ps.map fun p => stepsBack ps p.2 p.1 + 1)), s2 ++ [.lst ((99 :: ps.map fun p => stepsBack ps p.2 p.1 + 1).map .int)]) := by
    unfold gMin
    dsimp only
    rw [lstOf_lst (ds := (99 :: ps.map fun p => stepsBack ps p.2 p.1 + 1).map .int) (by rw [get_app0]; rfl), Option.bind_some, intsOf_map]
  rw [hmin]
  walk_at "ev"
  have hp2 : (s2 ++ [O.lst ((99 :: ps.map fun p => stepsBack ps p.2 p.1 + 1).map .int)])[rp]? = some (.lst (ps.map pD)) := get_old (G2.get (get_old hp))
  rw [tup_lst hp2]
  walk_at "ev"
  obtain ⟨s', e, G⟩ := ring_of_ok hW n (s2 ++ [O.lst ((99 :: ps.map fun p => stepsBack ps p.2 p.1 + 1).map .int)]) hl
  rw [e]
  walk_at "ev"
  have hp3 := G.get hp2
  rcases ring_least hl (adj ps) (fun x y => mem_adj) (numN ps) (sortI (numN ps)) (fun x => (sortI_perm _).mem_iff) (fun p h => mem_numN h) with ⟨ha, hn⟩ | ⟨r, hr, hR, ⟨p, hpm, hpe⟩, hle, h16⟩
  · have hn : ringP ps = none := hn
    rw [hn]
    simp only [optD]
    have hm : minI 99 (ps.map fun p => stepsBack ps p.2 p.1 + 1) = 99 := by
      have h1 := minI_le 99 (ps.map fun p => stepsBack ps p.2 p.1 + 1) 99 List.mem_cons_self
      rcases List.mem_cons.mp (minI_mem 99 (ps.map fun p => stepsBack ps p.2 p.1 + 1)) with h | h
      · exact h
      · obtain ⟨p, hp, e⟩ := List.mem_map.mp h
        rw [ha p hp] at e
        omega
    rw [hm]
    exact t3_none hW n s' hp3 hl hn
  · have hr : ringP ps = some r := hr
    rw [hr]
    simp only [optD]
    have hm : minI 99 (ps.map fun p => stepsBack ps p.2 p.1 + 1) = (r.length : Nat) := by
      have h1 := minI_le 99 (ps.map fun p => stepsBack ps p.2 p.1 + 1) _ (List.mem_cons_of_mem _ (List.mem_map.mpr ⟨p, hpm, rfl⟩))
      rcases List.mem_cons.mp (minI_mem 99 (ps.map fun p => stepsBack ps p.2 p.1 + 1)) with h | h
      · omega
      · obtain ⟨p2, hp2, e⟩ := List.mem_map.mp h
        have := hle p2 hp2
        omega
    rw [hm]
    exact t3_some hW n s' hp3 hl hr hR h16
end K87
set_option Elab.async false
set_option linter.all false
set_option maxRecDepth 100000
set_option maxHeartbeats 1000000
namespace K87
open PySem PySem.Spec PyProof.Rows L2 FL M87
local macro_rules | `(tactic| walk_at "ev") => `(tactic| simp (config := {failIfUnchanged := false}) only [evSs_c, evSs_n, evS, evE, evEs, evEo, evT, evAnd, evOr, evIt, evTg, evTgs, evCo, bind_okR, toS_okR, noX_okR, seq_nx, seq_ret, seq_brk, seq_cnt, turn_nx, turn_cnt, turn_ret, turn_brk, fin_ret, fin_nx, ofO_some, br_t, br_f,
  List.getElem?_cons_zero, List.getElem?_cons_succ, List.set_cons_zero, List.set_cons_succ, Bop.g, Cop.g, Blt.g, Bm.g, get_app0, get_appN, set_app0, set_appN, List.length_append, List.length_cons, List.length_nil, List.append_assoc, List.cons_append, List.nil_append, Nat.zero_add, Nat.add_zero, line0, line1, line2, line3, line4, line5, line6, line7, line8, line9, if_true, FL.eq_int, FL.ne_int, FL.add_int, FL.sub_int, cmp_int, isN_non, notN_non, tr_bl, len_tup, D.isN, Bool.not_true, Bool.not_false, Tgs.len, tn_tuple, tn_int, tn_bool, tn_str, isi_tup, isi_iT, isi_iS, isi_iB, isi_iI, isi_nT, wipe1])
local macro_rules | `(tactic| walk_at "in") => `(tactic| simp only [startE, List.map_cons, List.map_nil, List.length_cons, List.length_nil, List.replicate, List.cons_append, List.nil_append, Nat.reduceSub, Nat.zero_add, Nat.reduceAdd])
def law_t0 : Ss := .cons (.set 5 (.lc (.tup (.cons (.ix (.var 2) (.bin .mod (.ix (.var 4) (.bin .mul (.int 2) (.var 8))) (.var 3))) (.cons (.ix (.var 2) (.bin .mod (.ix (.var 4) (.bin .add (.bin .mul (.int 2) (.var 8)) (.int 1))) (.var 3))) .nil))) (.name 8) (.rng1 (.ix (.var 1) (.int 0))) .no [("k", 8)])) law_t1
theorem law_eq0 : c_law = (.cons (.set 1 (.call 5 (.cons (.var 0) (.cons (.int 0) (.cons (.lst (.cons (.int 15) (.cons (.int 8) (.cons (.int 3) (.cons (.int 1000) .nil))))) .nil))))) (.cons (.set 2 (.lst (.cons (.int 0) (.cons (.int 1) (.cons (.int 2) (.cons (.bin .add (.bin .pow (.int 10) (.int 20)) (.int 1)) (.cons (.int 7) (.cons (.bin .pow (.int 10) (.int 20)) (.cons (.int 3) (.cons (.int 12) (.cons (.ix (.var 1) (.int 3)) .nil))))))))))) (.cons (.set 3 (.bin .add (.int 2) (.ix (.var 1) (.int 1)))) (.cons (.set 4 (.call 5 (.cons (.var 0) (.cons (.int 1) (.cons (.bin .mul (.lst (.cons (.int 5040) (.cons (.int 5040) .nil))) (.int 14)) .nil))))) law_t0)))) := rfl
theorem atw {w : List Int} {m : Int} (x : Int) (hm : 0 < m) (h : m ≤ w.length) : ∃ v, L2.atI (w.map D.int) (x % m) = some (.int v) := by
  have h1 := Int.emod_nonneg x (show m ≠ 0 by omega)
  have h2 := Int.emod_lt_of_pos x hm
  have h3 : (x % m).toNat < w.length := by omega
  have e : x % m = ((x % m).toNat : Int) := by omega
  generalize (x % m).toNat = k at *
  refine ⟨w[k], ?_⟩
  rw [e]
  exact L2.atI_nat (by rw [List.getElem?_map, List.getElem?_eq_getElem h3]; rfl)
theorem outs_ps : ∀ {outs : List D}, (∀ (i : Nat) (d : D), outs[i]? = some d → ∃ p, d = pD p) → ∃ ps : Ps, outs = ps.map pD
  | [], _ => ⟨[], rfl⟩
  | d :: r, h => by
    obtain ⟨p, hp⟩ := h 0 d rfl
    obtain ⟨ps, e⟩ := outs_ps (outs := r) fun i d hd => h (i + 1) d (by rw [List.getElem?_cons_succ]; exact hd)
    exact ⟨p :: ps, by rw [hp, e]; rfl⟩
theorem t1b_ok {W : Nat} (hW : 1000 ≤ W) (n : Nat) (st : Sto) {r1 rp : Nat} {p0 p1 p2 p3 : Int} {ps : Ps} {e0 e2 e3 e4 e8 e9 e10 : Option D} (h1 : st[r1]? = some (intL [p0, p1, p2, p3])) (hp : st[rp]? = some (.lst (ps.map pD))) (hl : ps.length ≤ 14) :
    Tru (SR.fin (evSs ⟨runF tab W (n + 4), W⟩ law_t1b [e0, some (.ref r1), e2, e3, e4, some (.ref rp), none, none, e8, e9, e10] st)) := by
  unfold law_t1b
  walk_at "ev"
  rw [ix_list (lstOf_lst h1) (i := 2) (d := .int p2) rfl]
  walk_at "ev"
  cases (p2 == 2)
  · walk_at "ev"
    exact t2_ok hW n st hp (by omega)
  · walk_at "ev"
    rw [ix_list (lstOf_lst h1) (i := 0) (d := .int p0) rfl]
    walk_at "ev"
    cases decide ((1 : Int) < p0)
    · walk_at "ev"
      exact t2_ok hW n st hp (by omega)
    · walk_at "ev"
      have hs : gSl (.ref rp) none (some 1) st = some (.ref st.length, st ++ [.lst ((ps.take 1).map pD)]) := by
        unfold gSl
        dsimp only
        rw [lstOf_lst hp]
        show some (D.ref st.length, st ++ [O.lst (FL.cutD (ps.map pD) none (some 1))]) = _
        have : FL.cutD (ps.map pD) none (some 1) = (ps.take 1).map pD := by
          cases ps with
          | nil => rfl
          | cons p r =>
            unfold FL.cutD HT.sIx
            simp
        rw [this]
      rw [hs]
      walk_at "ev"
      have hadd : gAdd (.ref rp) (.ref st.length) (st ++ [.lst ((ps.take 1).map pD)]) = some (.ref (st.length + 1), st ++ [.lst ((ps.take 1).map pD), .lst ((ps ++ ps.take 1).map pD)]) := by
        unfold gAdd
        dsimp only
        rw [get_old hp, get_app0]
        dsimp only [List.getElem?_cons_zero]
        rw [if_pos, List.map_append, List.length_append, List.append_assoc]
        · rfl
        · rw [List.length_map, List.length_map, List.length_take]
          exact line_le (by omega)
      rw [hadd]
      walk_at "ev"
      exact t2_ok hW n _ (by rw [get_appN]; rfl) (by rw [List.length_append, List.length_take]; omega)
theorem t1_ok {W : Nat} (hW : 1000 ≤ W) (n : Nat) (st : Sto) {r1 r2 rp : Nat} {p0 p1 p2 p3 m : Int} {w : List Int} {ps : Ps} {e0 e4 e9 e10 : Option D} (h1 : st[r1]? = some (intL [p0, p1, p2, p3])) (h2 : st[r2]? = some (intL w)) (hm : 0 < m) (hmw : m ≤ w.length) (hp : st[rp]? = some (.lst (ps.map pD))) (hl : ps.length ≤ 14) (hp0 : 0 ≤ p0) (hp1 : p0 < 15) :
    Tru (SR.fin (evSs ⟨runF tab W (n + 4), W⟩ law_t1 [e0, some (.ref r1), some (.ref r2), some (.int m), e4, some (.ref rp), none, none, none, e9, e10] st)) := by
  unfold law_t1
  walk_at "ev"
  rw [ix_list (lstOf_lst h1) (i := 2) (d := .int p2) rfl]
  walk_at "ev"
  cases (p2 == 1)
  · walk_at "ev"
    exact t1b_ok hW n st h1 hp hl
  · walk_at "ev"
    rw [ix_list (lstOf_lst h1) (i := 0) (d := .int p0) rfl]
    walk_at "ev"
    rw [if_pos ⟨by omega, by omega⟩]
    walk_at "ev"
    refine lc_map (rngD 0 p0.toNat) (fun _ d => ∃ p, d = pD p) (fun x => Tru ((((x.toS _ _).seq _).seq _).fin)) (fun _ _ _ _ => rfl) (Nat.le_refl _) (by rw [rngD_len]; omega) ?_ ?_
    · intro i x s hx G
      rw [rngD_get] at hx
      split at hx
      · cases hx
        walk_at "ev"
        obtain ⟨a, ha⟩ := atw (w := w) ((i : Int)) hm hmw
        obtain ⟨b, hb⟩ := atw (w := w) ((i : Int) + 1) hm hmw
        rw [Int.zero_add]
        rw [FL.mod_int hm]
        walk_at "ev"
        rw [ix_list (lstOf_lst (G.get h2)) ha]
        walk_at "ev"
        rw [FL.mod_int hm]
        walk_at "ev"
        rw [ix_list (lstOf_lst (G.get h2)) hb]
        walk_at "ev"
        rw [if_pos (line_le (by decide))]
        walk_at "ev"
        exact ⟨_, _, rfl, Grow.refl _, (a, b), rfl⟩
      · cases hx
    · intro outs s G ho hol hoo
      obtain ⟨ps2, rfl⟩ := outs_ps hoo
      walk_at "ev"
      exact t1b_ok hW n s (G.get h1) ho (by rw [List.length_map, rngD_len] at hol; omega)
theorem t0_ok {W : Nat} (hW : 1000 ≤ W) (n : Nat) (st : Sto) {r1 r2 r4 : Nat} {p0 p1 p2 p3 m : Int} {w cs : List Int} {e0 e9 e10 : Option D} (h1 : st[r1]? = some (intL [p0, p1, p2, p3])) (h2 : st[r2]? = some (intL w)) (h4 : st[r4]? = some (intL cs)) (hcs : cs.length = 28) (hm : 0 < m) (hmw : m ≤ w.length) (hp0 : 0 ≤ p0) (hp1 : p0 < 15) :
    Tru (SR.fin (evSs ⟨runF tab W (n + 4), W⟩ law_t0 [e0, some (.ref r1), some (.ref r2), some (.int m), some (.ref r4), none, none, none, none, e9, e10] st)) := by
  unfold law_t0
  walk_at "ev"
  rw [ix_list (lstOf_lst h1) (i := 0) (d := .int p0) rfl]
  walk_at "ev"
  rw [if_pos ⟨by omega, by omega⟩]
  walk_at "ev"
  refine lc_map (rngD 0 p0.toNat) (fun _ d => ∃ p, d = pD p) (fun x => Tru (((x.toS _ _).seq _).fin)) (fun _ _ _ _ => rfl) (Nat.le_refl _) (by rw [rngD_len]; omega) ?_ ?_
  · intro i x s hx G
    rw [rngD_get] at hx
    split at hx
    · rename_i hi
      cases hx
      walk_at "ev"
      rw [Int.zero_add]
      have hc0 : (2 * i) < cs.length := by omega
      have hc1 : (2 * i + 1) < cs.length := by omega
      have hat0 : L2.atI (cs.map D.int) (2 * (i : Int)) = some (.int cs[2 * i]) := by
        rw [show 2 * (i : Int) = ((2 * i : Nat) : Int) by omega]
        exact L2.atI_nat (by rw [List.getElem?_map, List.getElem?_eq_getElem hc0]; rfl)
      have hat1 : L2.atI (cs.map D.int) (2 * (i : Int) + 1) = some (.int cs[2 * i + 1]) := by
        rw [show 2 * (i : Int) + 1 = ((2 * i + 1 : Nat) : Int) by omega]
        exact L2.atI_nat (by rw [List.getElem?_map, List.getElem?_eq_getElem hc1]; rfl)
      obtain ⟨a, ha⟩ := atw (w := w) (cs[2 * i]) hm hmw
      obtain ⟨b, hb⟩ := atw (w := w) (cs[2 * i + 1]) hm hmw
      rw [mul_l (i := 2) (by decide)]
      walk_at "ev"
      rw [ix_list (lstOf_lst (G.get h4)) hat0]
      walk_at "ev"
      rw [FL.mod_int hm]
      walk_at "ev"
      rw [ix_list (lstOf_lst (G.get h2)) ha]
      walk_at "ev"
      rw [mul_l (i := 2) (by decide)]
      walk_at "ev"
      rw [ix_list (lstOf_lst (G.get h4)) hat1]
      walk_at "ev"
      rw [FL.mod_int hm]
      walk_at "ev"
      rw [ix_list (lstOf_lst (G.get h2)) hb]
      walk_at "ev"
      rw [if_pos (line_le (by decide))]
      walk_at "ev"
      exact ⟨_, _, rfl, Grow.refl _, (a, b), rfl⟩
    · cases hx
  · intro outs s G ho hol hoo
    obtain ⟨ps2, rfl⟩ := outs_ps hoo
    walk_at "ev"
    exact t1_ok hW n s (G.get h1) (G.get h2) hm hmw ho (by rw [List.length_map, rngD_len] at hol; omega) hp0 hp1
theorem mul_lst {st : Sto} {r : Nat} {xs : List D} {k : Int} (h : st[r]? = some (.lst xs)) (h2 : -(2 ^ 63) ≤ k ∧ k < 2 ^ 63 ∧ xs.length * k.toNat ≤ sizeLine) : gMul (.ref r) (.int k) st = some (.ref st.length, st ++ [.lst (List.replicate k.toNat xs).flatten]) := by
  unfold gMul
  dsimp only
  rw [h]
  exact if_pos h2
theorem fits4 {outs : List Int} {a b c d : Int} (h : Fits outs [a, b, c, d]) : ∃ p0 p1 p2 p3, outs = [p0, p1, p2, p3] ∧ (0 ≤ p0 ∧ p0 < a) ∧ (0 ≤ p1 ∧ p1 < b) := by
  obtain ⟨h1, h2⟩ := h
  match outs, h1 with
  | [p0, p1, p2, p3], _ => exact ⟨p0, p1, p2, p3, rfl, h2 0 _ _ rfl rfl, h2 1 _ _ rfl rfl⟩
theorem law_ok {W : Nat} (hW : 1000 ≤ W) (n : Nat) (st : Sto) {rs : Nat} {ns : List Int} (hs : st[rs]? = some (.scr (ns.map .int))) : Tru (runF tab W (n + 5) 8 [.ref rs] st) := by
  rw [runF_def (d := d_law) W (n + 4) st rfl rfl, show d_law.body = _ from law_eq0, show d_law.N.length = 11 from rfl]
  walk_at "in"
  walk_at "ev"
  rw [if_pos (line_le (by decide))]
  walk_at "ev"
  obtain ⟨outs, e, hf⟩ := draws_ok hW (n + 3) (st ++ [O.lst ([15, 8, 3, 1000].map .int)]) (rl := st.length) (lims := [15, 8, 3, 1000]) (a := 0) (get_old hs) (by rw [get_app0]; rfl) (by decide) (by decide)
  obtain ⟨p0, p1, p2, p3, rfl, hb0, hb1⟩ := fits4 hf
  have e : runF tab W (n + 4) 5 [.ref rs, .int 0, .ref st.length] (st ++ [O.lst [.int 15, .int 8, .int 3, .int 1000]]) = _ := e
  rw [e]
  walk_at "ev"
  rw [pow_int (by decide) (by decide) (by decide)]
  walk_at "ev"
  rw [pow_int (by decide) (by decide) (by decide)]
  walk_at "ev"
  generalize (10 : Int) ^ Int.toNat 20 = big
  have hA1 : (st ++ [O.lst (List.map D.int [15, 8, 3, 1000]), intL [p0, p1, p2, p3]])[st.length + 1]? = some (intL [p0, p1, p2, p3]) := by rw [get_appN]; rfl
  rw [ix_list (lstOf_lst hA1) (i := 3) (d := .int p3) rfl]
  walk_at "ev"
  rw [if_pos (line_le (by decide))]
  walk_at "ev"
  have hA2 : (st ++ [O.lst (List.map D.int [15, 8, 3, 1000]), intL [p0, p1, p2, p3], O.lst [.int 0, .int 1, .int 2, .int (big + 1), .int 7, .int big, .int 3, .int 12, .int p3]])[st.length + 1]? = some (intL [p0, p1, p2, p3]) := by rw [get_appN]; rfl
  rw [ix_list (lstOf_lst hA2) (i := 1) (d := .int p1) rfl]
  walk_at "ev"
  rw [if_pos (line_le (by decide))]
  walk_at "ev"
  rw [mul_lst (xs := [.int 5040, .int 5040]) (by rw [get_appN]; rfl) ⟨by decide, by decide, line_le (by decide)⟩]
  walk_at "ev"
  generalize hS : (st ++ [O.lst (List.map D.int [15, 8, 3, 1000]), intL [p0, p1, p2, p3], O.lst [D.int 0, D.int 1, D.int 2, D.int (big + 1), D.int 7, D.int big, D.int 3, D.int 12, D.int p3], O.lst [D.int 5040, D.int 5040], O.lst (List.replicate (Int.toNat 14) [D.int 5040, D.int 5040]).flatten]) = S
  have k0 : S[rs]? = some (.scr (ns.map .int)) := by rw [← hS]; exact get_old hs
  have k1 : S[st.length + 1]? = some (intL [p0, p1, p2, p3]) := by rw [← hS, get_appN]; rfl
  have k2 : S[st.length + (1 + 1)]? = some (intL [0, 1, 2, big + 1, 7, big, 3, 12, p3]) := by rw [← hS, get_appN]; rfl
  have k4 : S[st.length + (1 + 1 + 1 + 1)]? = some (.lst ((List.replicate 28 (5040 : Int)).map .int)) := by rw [← hS, get_appN]; rfl
  clear hS
  obtain ⟨cs, e2, hf2⟩ := draws_ok hW (n + 3) S (a := 1) k0 k4 (by decide) (by decide)
  have e2 : runF tab W (n + 4) 5 [.ref rs, .int 1, .ref (st.length + (1 + 1 + 1 + 1))] S = _ := e2
  rw [e2]
  walk_at "ev"
  exact t0_ok hW n _ (get_old k1) (get_old k2) (by rw [get_app0]; rfl) hf2.1 (by omega) (by show _ ≤ ((9 : Nat) : Int); omega) hb0.1 hb0.2
theorem hrun' : ∀ ns : List Int, ns.length ≤ 63 → ∃ st, runF tab 1000 20 8 [.ref 0] [.scr (ns.map .int)] = .ok (.bl true) st :=
  fun ns _ => law_ok (Nat.le_refl _) 15 [.scr (ns.map .int)] rfl
end K87
set_option Elab.async false
set_option linter.all false
set_option maxRecDepth 100000
set_option maxHeartbeats 0
namespace K87
open PySem PySem.Spec PyProof.Rows L2 FL
abbrev Rw : PySem.W.OpenRow := PySem.W.OpenLaw.row PySem.Challenge.rw_keptinstep_k87_shortest_rings
abbrev hkf : List He.Fa := fas tab free
abbrev hkd : List He.DefD := dds tab
abbrev hk : PySem.W.Hook := He.hookD 4 hkf hkd
def ob (s : PySem.W.SharedT) : He.AlD := He.obsDG 4 hkf hkd (HandSHeadRun.getT s)
theorem ob_eq (s : PySem.W.SharedT) : ob s = hk.obs s.abs := He.obsDG_eq (HandSHeadRun.getT_eq s)
abbrev lose : List Str := ["followers", "way_back", "traced", "ring_in", "ring_of", "_law_draws", "_law_same", "_law_steps_back"]
theorem run (w : World) : HandSHeadRun.RunEq Rw (PySem.W.view Rw.prog [11]) hk ob 400 lose w := by
  intro os
  kernel_rfl
theorem hrun : ∀ ns : List Int, ns.length ≤ 63 → ∃ st, runF tab 1000 20 8 [.ref 0] [.scr (ns.map .int)] = .ok (.bl true) st := hrun'
end K87
open PySem PySem.W PySem.Calls PyProof.Rows
theorem PySem.Challenge.cw_keptinstep_k87_shortest_rings_holds : PySem.Challenge.rw_keptinstep_k87_shortest_rings.Holds := by
  w_on; o_law
  refine HandSHeadRun.head_any (r := OpenLaw.row PySem.Challenge.rw_keptinstep_k87_shortest_rings) (q := view (OpenLaw.row PySem.Challenge.rw_keptinstep_k87_shortest_rings).prog [11]) (H := K87.hk) (ob := K87.ob) (M := 400) (loose := K87.lose) (d := HandSHeadRun.topDef (OpenLaw.row PySem.Challenge.rw_keptinstep_k87_shortest_rings).prog 11) (kwd := []) K87.ob_eq
    (by kernel_rfl) (fun s => by kernel_rfl) K87.run (by kernel_rfl) (by kernel_rfl) (by kernel_rfl) (by rfl) (by first | assumption | decide +kernel) (by decide +kernel) ⟨rfl, rfl, rfl, rfl, rfl, by decide +kernel⟩ ?hw ?hc
  case hw => w_witness2
  case hc =>
    refine FL.walk_fl (l := PySem.Challenge.rw_keptinstep_k87_shortest_rings) (k := 20) rfl (by kernel_rfl) ⟨rfl, by decide, by decide⟩ ?_
    intro w mg fa h Y G hmg0
    obtain ⟨K, KX, c⟩ := Y
    have hmg : mg ("law" : PySem.Str) = some (.ref fa) := by
      have e : (HandSHeadRun.topDef (OpenLaw.row PySem.Challenge.rw_keptinstep_k87_shortest_rings).prog 11).name = ("law" : PySem.Str) := by kernel_rfl
      rw [← e]
      exact hmg0
    exact FL.law_end (T := K87.tab) (free := K87.free) (kl := 8) (W := 1000) (dl := K87.d_law) KX G c K87.chk rfl rfl hmg K87.hrun
