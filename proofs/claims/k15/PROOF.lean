import PyProof.Rows.All
import HandS.ForMost
import HandS.Style
import HandS.Zip
import HandS.SortRule
import HandS.TupAny
import HandS.TupMul
import HandS.TupLe
import HandS.Deep
import HandS.Conv
import HandS.More
import HandS.IsInst
import HandS.Text
import PyProof.StrOps2
import HandS.SetFor
import HandS.Strs
import PySem.Challenge.RW_nightbus_k15_whole_known_clocks_put_on_a
set_option Elab.async false
set_option linter.all false
set_option maxRecDepth 100000
namespace Nb
open PySem PySem.Spec PyProof.Rows L2

abbrev D := PyData
abbrev AS := Addr → Prop
def kD : Key → D
  | .inl i => .int i
  | .inr x => .str x

def KTup (K : PySem.W.Frag) (a : Addr) (xs : List V) : Prop :=
  ∃ (o : Obj) (its : Array Value) (n : Nat), K.lookup a = some o ∧ o.cls = .type "tuple" ∧ o.data = .seq its n ∧ its.size ≤ sizeLine ∧ Vals xs its.toList

def KLst (K : PySem.W.Frag) (a : Addr) (xs : List V) : Prop :=
  ∃ (o : Obj) (its : Array Value) (n : Nat), K.lookup a = some o ∧ o.cls = .type "list" ∧ o.dict = none ∧ o.data = .seq its n ∧ its.size ≤ sizeLine ∧ Vals xs its.toList
def SqR (K : PySem.W.Frag) (O : AS) (H : Hp) (a : Addr) (xs : List V) : Prop := (Rd H a (.lst xs) ∧ ¬ O a) ∨ KLst K a xs
theorem SqR.sq {K : PySem.W.Frag} {O : AS} {H : Hp} {a : Addr} {xs : List V} (h : SqR K O H a xs) : SqL K H a xs := by
  rcases h with ⟨h, _⟩ | ⟨o, its, n, h⟩
  · exact .inl h
  · exact .inr ⟨o, its, n, h⟩

mutual
inductive Rp (K : PySem.W.Frag) (O : AS) (H : Hp) : V → D → Prop
  | non : Rp K O H .non .none
  | bl (b : Bool) : Rp K O H (.bl b) (.bool b)
  | int (i : Int) : Rp K O H (.int i) (.int i)
  | str (x : Str) : Rp K O H (.str x) (.str x)
  | lst {a : Addr} {xs : List V} {ds : List D} : H a = some (.lst xs) → ¬ O a → RpA K O H xs ds → Rp K O H (.ref a) (.list ds)
  | tup {a : Addr} {xs : List V} {ds : List D} : H a = some (.tup xs) → ¬ O a → RpA K O H xs ds → Rp K O H (.ref a) (.tuple ds)
  | tupK {a : Addr} {xs : List V} {ds : List D} : KTup K a xs → RpA K O H xs ds → Rp K O H (.ref a) (.tuple ds)
  | scr {a : Addr} {xs : List V} {ds : List D} : SqR K O H a xs → RpA K O H xs ds → Rp K O H (.ref a) (.dict [(.list ds, .none)])
  | dK {a : Addr} {kvs : List (Key × V)} {ds : List (D × D)} : Rd H a (.dK kvs) → ¬ O a → ds.map (·.1) = kvs.map (fun p => kD p.1) → RpA K O H (kvs.map (·.2)) (ds.map (·.2)) → Rp K O H (.ref a) (.dict ds)
  | dT {a : Addr} {kvs : List (List Key × V)} {ds : List (D × D)} : Rd H a (.dT kvs) → ¬ O a → ds.map (·.1) = kvs.map (fun p => .tuple (p.1.map kD)) → RpA K O H (kvs.map (·.2)) (ds.map (·.2)) → Rp K O H (.ref a) (.dict ((.none, .none) :: ds))
inductive RpA (K : PySem.W.Frag) (O : AS) (H : Hp) : List V → List D → Prop
  | nil : RpA K O H [] []
  | cons {v : V} {vs : List V} {d : D} {ds : List D} : Rp K O H v d → RpA K O H vs ds → RpA K O H (v :: vs) (d :: ds)
end

inductive Top (K : PySem.W.Frag) (O : AS) (H : Hp) : Addr → D → Prop
  | lst {a : Addr} {xs : List V} {ds : List D} : H a = some (.lst xs) → RpA K O H xs ds → Top K O H a (.list ds)
  | dK {a : Addr} {kvs : List (Key × V)} {ds : List (D × D)} : Rd H a (.dK kvs) → ds.map (·.1) = kvs.map (fun p => kD p.1) → RpA K O H (kvs.map (·.2)) (ds.map (·.2)) → Top K O H a (.dict ds)
  | dT {a : Addr} {kvs : List (List Key × V)} {ds : List (D × D)} : Rd H a (.dT kvs) → ds.map (·.1) = kvs.map (fun p => .tuple (p.1.map kD)) → RpA K O H (kvs.map (·.2)) (ds.map (·.2)) → Top K O H a (.dict ((.none, .none) :: ds))

def NoFrz (H : Hp) (a : Addr) : Prop := ∀ q u, H a ≠ some (.frz q u)
def Kp (o : HO) (x : Option HO) : Prop := x = some o ∨ ∃ u, ((∃ kvs, u = .dK kvs) ∨ ∃ kvs, u = .dT kvs) ∧ (o = u ∨ ∃ q, o = .frz q u) ∧ (x = some u ∨ ∃ q, x = some (.frz q u))
def Stay (O : AS) (H : Hp) (O' : AS) (H' : Hp) : Prop := ∀ b o, H b = some o → ¬ O b → ¬ O' b ∧ Kp o (H' b)

section
variable {K : PySem.W.Frag} {O O' : AS} {H H' : Hp}

theorem Kp.lst {xs : List V} {x : Option HO} (h : Kp (.lst xs) x) : x = some (.lst xs) := by
  rcases h with h | ⟨u, hu, ho, _⟩
  · exact h
  · rcases hu with ⟨k, rfl⟩ | ⟨k, rfl⟩ <;> rcases ho with ho | ⟨q, ho⟩ <;> cases ho
theorem Kp.tup {xs : List V} {x : Option HO} (h : Kp (.tup xs) x) : x = some (.tup xs) := by
  rcases h with h | ⟨u, hu, ho, _⟩
  · exact h
  · rcases hu with ⟨k, rfl⟩ | ⟨k, rfl⟩ <;> rcases ho with ho | ⟨q, ho⟩ <;> cases ho
theorem rd_some {a : Addr} {u : HO} (h : Rd H a u) : ∃ o, H a = some o := by
  rcases h with h | ⟨o, h⟩ <;> exact ⟨_, h⟩
theorem Stay.rdK {a : Addr} {kvs : List (Key × V)} (s : Stay O H O' H') (h : Rd H a (.dK kvs)) (n : ¬ O a) : Rd H' a (.dK kvs) ∧ ¬ O' a := by
  have key : ∀ o, H a = some o → (o = .dK kvs ∨ ∃ q, o = .frz q (.dK kvs)) → Rd H' a (.dK kvs) ∧ ¬ O' a := fun o e eo => by
    obtain ⟨n', k⟩ := s a o e n
    refine ⟨?_, n'⟩
    rcases k with k | ⟨u, hu, ho, hx⟩
    · rcases eo with rfl | ⟨q, rfl⟩
      · exact .inl k
      · exact .inr ⟨q, k⟩
    · have eu : u = .dK kvs := by
        rcases hu with ⟨k', rfl⟩ | ⟨k', rfl⟩ <;> rcases ho with rfl | ⟨q, rfl⟩ <;> rcases eo with eo | ⟨q', eo⟩ <;> cases eo <;> rfl
      subst eu
      rcases hx with hx | ⟨q, hx⟩
      · exact .inl hx
      · exact .inr ⟨q, hx⟩
  rcases h with h | ⟨q, h⟩
  · exact key _ h (.inl rfl)
  · exact key _ h (.inr ⟨q, rfl⟩)
theorem Stay.rdT {a : Addr} {kvs : List (List Key × V)} (s : Stay O H O' H') (h : Rd H a (.dT kvs)) (n : ¬ O a) : Rd H' a (.dT kvs) ∧ ¬ O' a := by
  have key : ∀ o, H a = some o → (o = .dT kvs ∨ ∃ q, o = .frz q (.dT kvs)) → Rd H' a (.dT kvs) ∧ ¬ O' a := fun o e eo => by
    obtain ⟨n', k⟩ := s a o e n
    refine ⟨?_, n'⟩
    rcases k with k | ⟨u, hu, ho, hx⟩
    · rcases eo with rfl | ⟨q, rfl⟩
      · exact .inl k
      · exact .inr ⟨q, k⟩
    · have eu : u = .dT kvs := by
        rcases hu with ⟨k', rfl⟩ | ⟨k', rfl⟩ <;> rcases ho with rfl | ⟨q, rfl⟩ <;> rcases eo with eo | ⟨q', eo⟩ <;> cases eo <;> rfl
      subst eu
      rcases hx with hx | ⟨q, hx⟩
      · exact .inl hx
      · exact .inr ⟨q, hx⟩
  rcases h with h | ⟨q, h⟩
  · exact key _ h (.inl rfl)
  · exact key _ h (.inr ⟨q, rfl⟩)

theorem Stay.sqR {a : Addr} {xs : List V} (s : Stay O H O' H') (h : SqR K O H a xs) : SqR K O' H' a xs := by
  rcases h with ⟨h, n⟩ | h
  · rcases h with h | ⟨q, h⟩
    · exact .inl ⟨.inl (s _ _ h n).2.lst, (s _ _ h n).1⟩
    · refine .inl ⟨.inr ⟨q, ?_⟩, (s _ _ h n).1⟩
      rcases (s _ _ h n).2 with k | ⟨u, hu, ho, _⟩
      · exact k
      · rcases hu with ⟨k, rfl⟩ | ⟨k, rfl⟩ <;> rcases ho with ho | ⟨q', ho⟩ <;> cases ho
  · exact .inr h

mutual
theorem Rp.mono (s : Stay O H O' H') : ∀ {v : V} {d : D}, Rp K O H v d → Rp K O' H' v d
  | _, _, .non => .non
  | _, _, .bl b => .bl b
  | _, _, .int i => .int i
  | _, _, .str x => .str x
  | _, _, .lst h n r => .lst (s _ _ h n).2.lst (s _ _ h n).1 (RpA.mono s r)
  | _, _, .tup h n r => .tup (s _ _ h n).2.tup (s _ _ h n).1 (RpA.mono s r)
  | _, _, .tupK h r => .tupK h (RpA.mono s r)
  | _, _, .scr h r => .scr (s.sqR h) (RpA.mono s r)
  | _, _, .dK h n e r => .dK (s.rdK h n).1 (s.rdK h n).2 e (RpA.mono s r)
  | _, _, .dT h n e r => .dT (s.rdT h n).1 (s.rdT h n).2 e (RpA.mono s r)
theorem RpA.mono (s : Stay O H O' H') : ∀ {vs : List V} {ds : List D}, RpA K O H vs ds → RpA K O' H' vs ds
  | _, _, .nil => .nil
  | _, _, .cons r t => .cons (Rp.mono s r) (RpA.mono s t)
end
theorem RpA.length : ∀ {vs : List V} {ds : List D}, RpA K O H vs ds → vs.length = ds.length
  | _, _, .nil => rfl
  | _, _, .cons _ t => by simp [RpA.length t]
theorem RpA.get : ∀ {vs : List V} {ds : List D} {i : Nat} {d : D}, RpA K O H vs ds → ds[i]? = some d → ∃ v, vs[i]? = some v ∧ Rp K O H v d
  | _, _, _, _, .nil, e => by simp at e
  | _, _, 0, _, .cons r _, e => by simp at e; subst e; exact ⟨_, rfl, r⟩
  | _, _, i + 1, d, .cons _ t, e => by
    obtain ⟨v, h1, h2⟩ := RpA.get (i := i) t (by simpa using e)
    exact ⟨v, by simpa using h1, h2⟩
theorem RpA.getV : ∀ {vs : List V} {ds : List D} {i : Nat} {v : V}, RpA K O H vs ds → vs[i]? = some v → ∃ d, ds[i]? = some d ∧ Rp K O H v d
  | _, _, _, _, .nil, e => by simp at e
  | _, _, 0, _, .cons r _, e => by simp at e; subst e; exact ⟨_, rfl, r⟩
  | _, _, i + 1, d, .cons _ t, e => by
    obtain ⟨v, h1, h2⟩ := RpA.getV (i := i) t (by simpa using e)
    exact ⟨v, by simpa using h1, h2⟩
theorem RpA.append : ∀ {vs ws : List V} {ds es : List D}, RpA K O H vs ds → RpA K O H ws es → RpA K O H (vs ++ ws) (ds ++ es)
  | _, _, _, _, .nil, s => s
  | _, _, _, _, .cons r t, s => .cons r (RpA.append t s)
theorem RpA.snoc {vs : List V} {ds : List D} {v : V} {d : D} (h : RpA K O H vs ds) (r : Rp K O H v d) : RpA K O H (vs ++ [v]) (ds ++ [d]) := h.append (.cons r .nil)
theorem RpA.take : ∀ {vs : List V} {ds : List D} (n : Nat), RpA K O H vs ds → RpA K O H (vs.take n) (ds.take n)
  | _, _, 0, _ => .nil
  | _, _, _ + 1, .nil => .nil
  | _, _, n + 1, .cons r t => .cons r (RpA.take n t)
theorem RpA.drop : ∀ {vs : List V} {ds : List D} (n : Nat), RpA K O H vs ds → RpA K O H (vs.drop n) (ds.drop n)
  | _, _, 0, r => r
  | _, _, _ + 1, .nil => .nil
  | _, _, n + 1, .cons _ t => RpA.drop n t
theorem RpA.set {v : V} {d : D} (r : Rp K O H v d) : ∀ {vs : List V} {ds : List D} (i : Nat), RpA K O H vs ds → RpA K O H (vs.set i v) (ds.set i d)
  | _, _, _, .nil => .nil
  | _, _, 0, .cons _ t => .cons r t
  | _, _, i + 1, .cons q t => .cons q (RpA.set r i t)
theorem RpA.reverse : ∀ {vs : List V} {ds : List D}, RpA K O H vs ds → RpA K O H vs.reverse ds.reverse
  | _, _, .nil => .nil
  | _, _, .cons r t => by
    rw [List.reverse_cons, List.reverse_cons]
    exact (RpA.reverse t).snoc r
theorem RpA.rep {vs : List V} {ds : List D} (h : RpA K O H vs ds) : ∀ k : Nat, RpA K O H (List.replicate k vs).flatten (List.replicate k ds).flatten
  | 0 => .nil
  | k + 1 => by
    rw [List.replicate_succ, List.replicate_succ, List.flatten_cons, List.flatten_cons]
    exact h.append (h.rep k)
theorem RpA.insertIdx {v : V} {d : D} (r : Rp K O H v d) : ∀ {vs : List V} {ds : List D} (i : Nat), RpA K O H vs ds → RpA K O H (vs.insertIdx i v) (ds.insertIdx i d)
  | _, _, 0, h => .cons r h
  | _, _, i + 1, .nil => .nil
  | _, _, i + 1, .cons q t => by
    rw [List.insertIdx_succ_cons, List.insertIdx_succ_cons]
    exact .cons q (RpA.insertIdx r i t)

theorem Top.mono {a : Addr} {d : D} (s : Stay O H O' H') (hs : ∀ o, H a = some o → Kp o (H' a)) (h : Top K O H a d) : Top K O' H' a d := by
  have s' : Stay (fun b => b ≠ a) H (fun b => b ≠ a) H' := fun b o e n => by
    have eb : b = a := Classical.byContradiction n
    subst eb
    exact ⟨n, hs o e⟩
  have na : ¬ (fun b => b ≠ a) a := fun z => z rfl
  cases h with
  | lst h r => exact .lst (hs _ h).lst (r.mono s)
  | dK h e r => exact .dK (s'.rdK h na).1 e (r.mono s)
  | dT h e r => exact .dT (s'.rdT h na).1 e (r.mono s)
theorem Top.rp {a : Addr} {d : D} (h : Top K O H a d) (n : ¬ O a) : Rp K O H (.ref a) d := by
  cases h with
  | lst h r => exact .lst h n r
  | dK h e r => exact .dK h n e r
  | dT h e r => exact .dT h n e r
theorem Top.there {a : Addr} {d : D} (h : Top K O H a d) : ∃ o, H a = some o := by
  cases h with
  | lst h r => exact ⟨_, h⟩
  | dK h e r => exact rd_some h
  | dT h e r => exact rd_some h
def Pk (K : PySem.W.Frag) (O : AS) (H : Hp) (v : V) (d : D) : Prop := Rp K O H v d ∨ ∃ a, v = .ref a ∧ Top K O H a d

inductive BV where
  | d (x : D) | new (x : D) | own (i : Nat) | fn (a : Addr)
inductive Md where
  | ow | io | lk
  deriving DecidableEq
inductive Sl where
  | sh (x : D) | own (m : Md) (x : D) | fv (a : Addr)
abbrev VE := List (Option Sl)

def Own (σ : L2.St) (ρ : VE) (a : Addr) : Prop := ∃ (i : Nat) (m : Md) (d : D), ρ[i]? = some (some (Sl.own m d)) ∧ σ[i]? = some (some (V.ref a))
def MOwn (σ : L2.St) (ρ : VE) (a : Addr) : Prop := ∃ (i : Nat) (m : Md) (d : D), ρ[i]? = some (some (Sl.own m d)) ∧ m ≠ .lk ∧ σ[i]? = some (some (V.ref a))
def Av (A : AS) (σ : L2.St) (ρ : VE) (a : Addr) : Prop := A a ∨ Own σ ρ a

structure EOk (K : PySem.W.Frag) (A : AS) (σ : L2.St) (ρ : VE) (H : Hp) : Prop where
  len : σ.length = ρ.length
  dom : ∀ b, A b → ∃ o, H b = some o
  sh : ∀ (i : Nat) (d : D), ρ[i]? = some (some (Sl.sh d)) → ∃ v, σ[i]? = some (some v) ∧ Rp K (Av A σ ρ) H v d
  own : ∀ (i : Nat) (m : Md) (d : D), ρ[i]? = some (some (Sl.own m d)) → ∃ a, σ[i]? = some (some (V.ref a)) ∧ Top K (Av A σ ρ) H a d ∧ ¬ A a ∧ (m ≠ .lk → NoFrz H a)
  fv : ∀ (i : Nat) (a : Addr), ρ[i]? = some (some (Sl.fv a)) → σ[i]? = some (some (V.ref a))
  inj : ∀ (i j : Nat) (m n : Md) (d e : D) (a : Addr), ρ[i]? = some (some (Sl.own m d)) → ρ[j]? = some (some (Sl.own n e)) → σ[i]? = some (some (V.ref a)) → σ[j]? = some (some (V.ref a)) → i = j

structure Ext (σ : L2.St) (ρ : VE) (H : Hp) (σ' : L2.St) (ρ' : VE) (H' : Hp) : Prop where
  keep : ∀ b o, H b = some o → ¬ MOwn σ ρ b → H' b = some o
  there : ∀ b o, H b = some o → ∃ o', H' b = some o'
  own : ∀ b, Own σ' ρ' b → Own σ ρ b ∨ H b = none
  mown : ∀ b, MOwn σ' ρ' b → MOwn σ ρ b ∨ H b = none
  io : ∀ (i : Nat) (d : D), ρ[i]? = some (some (Sl.own .io d)) → ∃ d', ρ'[i]? = some (some (Sl.own .io d')) ∧ σ'[i]? = σ[i]?
end

section
variable {K : PySem.W.Frag} {A A' : AS} {σ σ' σ2 : L2.St} {ρ ρ' ρ2 : VE} {H H' H2 : Hp}
theorem MOwn.own {a : Addr} (h : MOwn σ ρ a) : Own σ ρ a := let ⟨i, m, d, e, _, s⟩ := h; ⟨i, m, d, e, s⟩
theorem EOk.there (E : EOk K A σ ρ H) {b : Addr} (h : Av A σ ρ b) : ∃ o, H b = some o := by
  rcases h with h | ⟨i, m, d, e, s⟩
  · exact E.dom b h
  · obtain ⟨a, es, t, _⟩ := E.own i m d e
    rw [s] at es; cases es
    exact t.there
theorem EOk.nav (E : EOk K A σ ρ H) {b : Addr} (h : H b = none) : ¬ Av A σ ρ b := fun z => by
  obtain ⟨o, e⟩ := E.there z
  rw [h] at e; cases e
theorem Ext.refl : Ext σ ρ H σ ρ H := ⟨fun _ _ h _ => h, fun _ o h => ⟨o, h⟩, fun _ h => .inl h, fun _ h => .inl h, fun i d e => ⟨d, e, rfl⟩⟩
theorem Ext.trans (a : Ext σ ρ H σ' ρ' H') (b : Ext σ' ρ' H' σ2 ρ2 H2) : Ext σ ρ H σ2 ρ2 H2 where
  keep := fun c o e n => b.keep c o (a.keep c o e n) fun z => by
    rcases a.mown c z with q | q
    · exact n q
    · rw [e] at q; cases q
  there := fun c o e => by
    obtain ⟨o', e'⟩ := a.there c o e
    exact b.there c o' e'
  own := fun c z => by
    rcases b.own c z with q | q
    · exact a.own c q
    · by_cases n : MOwn σ ρ c
      · exact .inl n.own
      · cases e : H c with
        | none => exact .inr rfl
        | some o => rw [a.keep c o e n] at q; cases q
  mown := fun c z => by
    rcases b.mown c z with q | q
    · exact a.mown c q
    · by_cases n : MOwn σ ρ c
      · exact .inl n
      · cases e : H c with
        | none => exact .inr rfl
        | some o => rw [a.keep c o e n] at q; cases q
  io := fun i d e => by
    obtain ⟨d', e', s'⟩ := a.io i d e
    obtain ⟨d2, e2, s2⟩ := b.io i d' e'
    exact ⟨d2, e2, s2.trans s'⟩
theorem Ext.stay (x : Ext σ ρ H σ' ρ' H') : Stay (Av A σ ρ) H (Av A σ' ρ') H' := fun b o e n => by
  refine ⟨fun z => ?_, .inl (x.keep b o e fun z => n (.inr z.own))⟩
  rcases z with z | z
  · exact n (.inl z)
  · rcases x.own b z with q | q
    · exact n (.inr q)
    · rw [e] at q; cases q
theorem Ext.rp {v : V} {d : D} (x : Ext σ ρ H σ' ρ' H') (h : Rp K (Av A σ ρ) H v d) : Rp K (Av A σ' ρ') H' v d := h.mono x.stay
theorem Ext.rpA {v : List V} {d : List D} (x : Ext σ ρ H σ' ρ' H') (h : RpA K (Av A σ ρ) H v d) : RpA K (Av A σ' ρ') H' v d := h.mono x.stay

theorem EOk.weaken (E : EOk K A σ ρ H) (h : ∀ b, A' b → A b) : EOk K A' σ ρ H := by
  have s : Stay (Av A σ ρ) H (Av A' σ ρ) H := fun b o e n => ⟨fun z => n (z.elim (fun q => .inl (h b q)) .inr), .inl e⟩
  refine ⟨E.len, fun b z => E.dom b (h b z), fun i d e => ?_, fun i m d e => ?_, E.fv, E.inj⟩
  · obtain ⟨v, ev, r⟩ := E.sh i d e
    exact ⟨v, ev, r.mono s⟩
  · obtain ⟨a, ea, t, n, f⟩ := E.own i m d e
    exact ⟨a, ea, t.mono s (fun o e => .inl e), fun z => n (h a z), f⟩
theorem EOk.grow (E : EOk K A σ ρ H) (g : ∀ b o, H b = some o → H' b = some o) (hA : ∀ b, A' b → A b ∨ H b = none ∧ ∃ o, H' b = some o) : EOk K A' σ ρ H' := by
  have s : Stay (Av A σ ρ) H (Av A' σ ρ) H' := fun b o e n => ⟨fun z => by
    rcases z with z | z
    · rcases hA b z with q | ⟨q, _⟩
      · exact n (.inl q)
      · rw [e] at q; cases q
    · exact n (.inr z), .inl (g b o e)⟩
  refine ⟨E.len, fun b z => ?_, fun i d e => ?_, fun i m d e => ?_, E.fv, E.inj⟩
  · rcases hA b z with q | ⟨_, q⟩
    · obtain ⟨o, e⟩ := E.dom b q
      exact ⟨o, g b o e⟩
    · exact q
  · obtain ⟨v, ev, r⟩ := E.sh i d e
    exact ⟨v, ev, r.mono s⟩
  · obtain ⟨a, ea, t, n, f⟩ := E.own i m d e
    obtain ⟨o, eo⟩ := t.there
    refine ⟨a, ea, t.mono s (fun o e => .inl (g _ _ e)), fun z => ?_, fun hm q u z => ?_⟩
    · rcases hA a z with q | ⟨q, _⟩
      · exact n q
      · rw [eo] at q; cases q
    · have e2 := g _ _ eo
      rw [z] at e2
      cases e2
      exact f hm q u eo
theorem Ext.grow (g : ∀ b o, H b = some o → H' b = some o) : Ext σ ρ H σ ρ H' := ⟨fun b o e _ => g b o e, fun b o e => ⟨o, g b o e⟩, fun _ h => .inl h, fun _ h => .inl h, fun i d e => ⟨d, e, rfl⟩⟩

def add (A : AS) (a : Addr) : AS := fun b => A b ∨ b = a

def Res (K : PySem.W.Frag) (A : AS) (σ : L2.St) (ρ : VE) (H H' : Hp) (v : V) : BV → Prop
  | .d x => EOk K A σ ρ H' ∧ Rp K (Av A σ ρ) H' v x
  | .new x => ∃ a, v = .ref a ∧ H a = none ∧ EOk K (add A a) σ ρ H' ∧ Top K (Av (add A a) σ ρ) H' a x ∧ NoFrz H' a ∧ ¬ Av A σ ρ a
  | .own i => EOk K A σ ρ H' ∧ σ[i]? = some (some v)
  | .fn f => EOk K A σ ρ H' ∧ v = .ref f
def BR (K : PySem.W.Frag) (A : AS) (σ : L2.St) (ρ : VE) (H : Hp) (v : V) : BV → Prop
  | .d x => Rp K (Av A σ ρ) H v x
  | .new x => Rp K (Av A σ ρ) H v x
  | .own i => σ[i]? = some (some v)
  | .fn f => v = .ref f

def peekS : Option (Option Sl) → Option D
  | some (some (Sl.sh x)) => some x
  | some (some (Sl.own _ x)) => some x
  | _ => none
def peek (ρ : VE) : BV → Option D
  | .d x => some x
  | .new x => some x
  | .own i => peekS ρ[i]?
  | .fn _ => none
def frzS (ρ : VE) (i : Nat) : Option (Option Sl) → Option (D × VE)
  | some (some (Sl.sh x)) => some (x, ρ)
  | some (some (Sl.own .ow x)) => some (x, ρ.set i (some (Sl.sh x)))
  | _ => none
def frz (ρ : VE) : BV → Option (D × VE)
  | .d x => some (x, ρ)
  | .new x => some (x, ρ)
  | .own i => frzS ρ i ρ[i]?
  | .fn _ => none

abbrev ME := VE → Option (BV × VE)
def Snd (K : PySem.W.Frag) (t : TE) (m : ME) : Prop := ∀ (A : AS) (σ : L2.St) (ρ : VE) (H : Hp) (r : BV) (ρ' : VE) (Q : VK),
  EOk K A σ ρ H → m ρ = some (r, ρ') → (∀ v H', Ext σ ρ H σ ρ' H' → Res K A σ ρ' H H' v r → Q v H') → t σ H Q

theorem Res.br {v : V} {r : BV} (h : Res K A σ ρ H H' v r) : EOk K A σ ρ H' ∧ BR K A σ ρ H' v r := by
  cases r with
  | d x => exact h
  | new x =>
    obtain ⟨a, rfl, _, E, t, _, n⟩ := h
    refine ⟨E.weaken fun b z => .inl z, ?_⟩
    have s : Stay (Av (add A a) σ ρ) H' (Av A σ ρ) H' := fun b o e n => ⟨fun z => n (z.elim (fun q => .inl (.inl q)) .inr), .inl e⟩
    exact (t.mono s fun o e => .inl e).rp n
  | own i => exact h
  | fn f => exact h
theorem Snd.use {t : TE} {m : ME} (h : Snd K t m) {r : BV} {Q : VK} (E : EOk K A σ ρ H) (e : m ρ = some (r, ρ')) (q : ∀ v H', Ext σ ρ H σ ρ' H' → EOk K A σ ρ' H' → BR K A σ ρ' H' v r → Q v H') : t σ H Q :=
  h A σ ρ H r ρ' Q E e fun v H' x rs => q v H' x rs.br.1 rs.br.2
theorem BR.keep {v : V} {r : BV} (x : Ext σ ρ H σ ρ' H') (h : BR K A σ ρ H v r) : BR K A σ ρ' H' v r := by
  cases r with
  | d y => exact x.rp h
  | new y => exact x.rp h
  | own i => exact h
  | fn f => exact h
theorem BR.peek {v : V} {r : BV} {d : D} (h : BR K A σ ρ H v r) (E : EOk K A σ ρ H) (e : peek ρ r = some d) : Pk K (Av A σ ρ) H v d := by
  cases r with
  | d y => cases e; exact .inl h
  | new y => cases e; exact .inl h
  | own i =>
    have hs : σ[i]? = some (some v) := h
    replace e : peekS ρ[i]? = some d := e
    cases q : ρ[i]? with
    | none => rw [q] at e; cases e
    | some o =>
      cases o with
      | none => rw [q] at e; cases e
      | some sl =>
        rw [q] at e
        cases sl with
        | sh x =>
          cases e
          obtain ⟨w, ew, r⟩ := E.sh i d q
          rw [hs] at ew; cases ew
          exact .inl r
        | own m x =>
          cases e
          obtain ⟨a, ea, t, _⟩ := E.own i m d q
          rw [hs] at ea; cases ea
          exact .inr ⟨a, rfl, t⟩
        | fv a => cases e
  | fn f => cases e

theorem own_set {i : Nat} {x : D} (q : ρ[i]? = some (some (Sl.own .ow x))) {b : Addr} (h : Own σ (ρ.set i (some (Sl.sh x))) b) : ∃ j m d, j ≠ i ∧ ρ[j]? = some (some (Sl.own m d)) ∧ σ[j]? = some (some (V.ref b)) := by
  obtain ⟨j, m, d, e, s⟩ := h
  by_cases hj : j = i
  · subst hj
    rw [List.getElem?_set_self (List.getElem?_eq_some_iff.mp q).1] at e
    cases e
  · rw [List.getElem?_set_ne (fun z => hj z.symm)] at e
    exact ⟨j, m, d, hj, e, s⟩
theorem frz_ok {v : V} {r : BV} {d : D} (h : BR K A σ ρ H v r) (E : EOk K A σ ρ H) (e : frz ρ r = some (d, ρ')) : EOk K A σ ρ' H ∧ Ext σ ρ H σ ρ' H ∧ Rp K (Av A σ ρ') H v d := by
  cases r with
  | d y => cases e; exact ⟨E, .refl, h⟩
  | new y => cases e; exact ⟨E, .refl, h⟩
  | fn f => cases e
  | own i =>
    have hs : σ[i]? = some (some v) := h
    replace e : frzS ρ i ρ[i]? = some (d, ρ') := e
    cases q : ρ[i]? with
    | none => rw [q] at e; cases e
    | some o =>
      cases o with
      | none => rw [q] at e; cases e
      | some sl =>
        rw [q] at e
        cases sl with
        | sh x =>
          cases e
          obtain ⟨w, ew, r⟩ := E.sh i d q
          rw [hs] at ew; cases ew
          exact ⟨E, .refl, r⟩
        | fv a => cases e
        | own m x =>
          cases m with
          | io => cases e
          | lk => cases e
          | ow =>
            cases e
            obtain ⟨a, ea, t, na, nf⟩ := E.own i .ow d q
            rw [hs] at ea; cases ea
            have st : Stay (Av A σ ρ) H (Av A σ (ρ.set i (some (Sl.sh d)))) H := fun b o e n => ⟨fun z => n (z.elim .inl fun z => by
              obtain ⟨j, m, d', _, e, s⟩ := own_set q z
              exact .inr ⟨j, m, d', e, s⟩), .inl e⟩
            have hi : i < ρ.length := (List.getElem?_eq_some_iff.mp q).1
            have nav : ¬ Av A σ (ρ.set i (some (Sl.sh d))) a := fun z => z.elim na fun z => by
              obtain ⟨j, m, d', hj, e, s⟩ := own_set q z
              exact hj (E.inj j i m .ow d' d a e q s hs)
            have rp : Rp K (Av A σ (ρ.set i (some (Sl.sh d)))) H (.ref a) d := (t.mono st fun o e => .inl e).rp nav
            refine ⟨⟨by simpa using E.len, E.dom, fun j y ej => ?_, fun j m y ej => ?_, fun j b ej => ?_, fun j k m n y z b ej ek sj sk => ?_⟩, ⟨fun b o e _ => e, fun b o e => ⟨o, e⟩, fun b z => ?_, fun b z => ?_, fun j y ej => ?_⟩, rp⟩
            · by_cases hj : j = i
              · subst hj
                rw [List.getElem?_set_self hi] at ej
                cases ej
                exact ⟨_, hs, rp⟩
              · rw [List.getElem?_set_ne (fun z => hj z.symm)] at ej
                obtain ⟨w, ew, r⟩ := E.sh j y ej
                exact ⟨w, ew, r.mono st⟩
            · by_cases hj : j = i
              · subst hj
                rw [List.getElem?_set_self hi] at ej
                cases ej
              · rw [List.getElem?_set_ne (fun z => hj z.symm)] at ej
                obtain ⟨b, eb, t', nb, f⟩ := E.own j m y ej
                exact ⟨b, eb, t'.mono st fun o e => .inl e, nb, f⟩
            · by_cases hj : j = i
              · subst hj
                rw [List.getElem?_set_self hi] at ej
                cases ej
              · rw [List.getElem?_set_ne (fun z => hj z.symm)] at ej
                exact E.fv j b ej
            · have hj : j ≠ i := fun z => by subst z; rw [List.getElem?_set_self hi] at ej; cases ej
              have hk : k ≠ i := fun z => by subst z; rw [List.getElem?_set_self hi] at ek; cases ek
              rw [List.getElem?_set_ne (fun z => hj z.symm)] at ej
              rw [List.getElem?_set_ne (fun z => hk z.symm)] at ek
              exact E.inj j k m n y z b ej ek sj sk
            · obtain ⟨j, m, d', hj, e, s⟩ := own_set q z
              exact .inl ⟨j, m, d', e, s⟩
            · obtain ⟨j, m, y, ej, hm, sj⟩ := z
              have hj : j ≠ i := fun z => by subst z; rw [List.getElem?_set_self hi] at ej; cases ej
              rw [List.getElem?_set_ne (fun z => hj z.symm)] at ej
              exact .inl ⟨j, m, y, ej, hm, sj⟩
            · have hj : j ≠ i := fun z => by subst z; rw [q] at ej; cases ej
              exact ⟨y, by rw [List.getElem?_set_ne (fun z => hj z.symm)]; exact ej, rfl⟩
end
end Nb

namespace Nb
open PySem PySem.Spec PyProof.Rows L2

structure Core where
  prog : Program
  w : World
  K : PySem.W.Frag
  mg : PySem.Str → Option Value
  base : Heap
  A : Around
  N : List PySem.Str
structure Rest where
  s_0 : Shared
  H_0 : Hp
  env : PySem.Env
  outer : List PySem.Env
  stack : List PySem.Env
  ex : List Addr
  fn : PySem.Str → Bool
  pn : List (Addr × Obj)
  xe : Value → Shared → Prop
def cx (C : Core) (R : Rest) : Cx := { prog := C.prog, w := C.w, K := C.K, mg := C.mg, base := C.base, A := C.A, N := C.N, s_0 := R.s_0, H_0 := R.H_0, env := R.env, outer := R.outer, stack := R.stack, ex := R.ex, fn := R.fn, calm := true, pn := R.pn, xe := R.xe }

def bnd {α β : Type} (x : Option (α × VE)) (k : α → VE → Option β) : Option β := match x with
  | some (a, ρ) => k a ρ
  | none => none
theorem bnd_some {α β : Type} {x : Option (α × VE)} {k : α → VE → Option β} {b : β} (h : bnd x k = some b) : ∃ a ρ, x = some (a, ρ) ∧ k a ρ = some b := by
  cases x with
  | none => cases h
  | some p => exact ⟨p.1, p.2, rfl, h⟩
def obd {α β : Type} (x : Option α) (k : α → Option β) : Option β := match x with
  | some a => k a
  | none => none
theorem obd_some {α β : Type} {x : Option α} {k : α → Option β} {b : β} (h : obd x k = some b) : ∃ a, x = some a ∧ k a = some b := by
  cases x with
  | none => cases h
  | some p => exact ⟨p, rfl, h⟩

def VRes (K : PySem.W.Frag) (O : AS) (H H' : Hp) (v : V) : BV → Prop
  | .d x => Rp K O H' v x
  | .new x => ∃ a, v = .ref a ∧ H a = none ∧ Top K (add O a) H' a x ∧ NoFrz H' a
  | _ => False
def Gr (H H' : Hp) : Prop := ∀ b o, H b = some o → H' b = some o
theorem Gr.refl {H : Hp} : Gr H H := fun _ _ h => h
theorem Gr.upd {H : Hp} {p : Addr} {o : HO} (h : H p = none) : Gr H (upd H p o) := fun b u e => by
  rw [upd_ne (ne_of_none e h)]
  exact e

section
variable {K : PySem.W.Frag} {A A' : AS} {O : AS} {σ σ' σ2 : L2.St} {ρ ρ' ρ2 ρ₀ : VE} {H H' H2 H₀ : Hp}
theorem Gr.stay (g : Gr H H') : Stay O H O H' := fun b o e n => ⟨n, .inl (g b o e)⟩
theorem Gr.stayAdd (g : Gr H H') {a : Addr} (h : H a = none) : Stay O H (add O a) H' := fun b o e n => by
  refine ⟨fun z => ?_, .inl (g b o e)⟩
  rcases z with z | z
  · exact n z
  · subst z
    rw [h] at e
    cases e
theorem VRes.lift (E : EOk K A σ ρ H) (g : Gr H H') {v : V} {b : BV} (h : VRes K (Av A σ ρ) H H' v b) (hf : ∀ a, H a = none → H₀ a = none) : Ext σ ρ H σ ρ H' ∧ Res K A σ ρ H₀ H' v b := by
  refine ⟨.grow g, ?_⟩
  cases b with
  | d x => exact ⟨E.grow g fun b z => .inl z, h⟩
  | new x =>
    obtain ⟨a, rfl, hn, t, nf⟩ := h
    obtain ⟨o, eo⟩ := t.there
    refine ⟨a, rfl, hf a hn, E.grow g (fun b z => z.elim (fun z => Or.inl z) fun z => Or.inr ⟨z ▸ hn, z ▸ ⟨o, eo⟩⟩), t.mono (fun b o e n => ⟨fun z => n ?_, .inl e⟩) (fun o e => .inl e), nf, E.nav hn⟩
    rcases z with (z | z) | z
    · exact .inl (.inl z)
    · exact .inr z
    · exact .inl (.inr z)
  | own i => exact h.elim
  | fn f => exact h.elim
theorem vnew_lst {p : Addr} {xs : List V} {ds : List D} (hp : H p = none) (r : RpA K O H xs ds) : VRes K O H (upd H p (.lst xs)) (.ref p) (.new (.list ds)) :=
  ⟨p, rfl, hp, .lst upd_same (r.mono ((Gr.upd hp).stayAdd hp)), fun q u z => by rw [upd_same] at z; cases z⟩
theorem vnew_tup {p : Addr} {xs : List V} {ds : List D} (hp : H p = none) (hO : ∀ b, O b → ∃ o, H b = some o) (r : RpA K O H xs ds) : VRes K O H (upd H p (.tup xs)) (.ref p) (.d (.tuple ds)) :=
  .tup upd_same (fun z => by obtain ⟨o, e⟩ := hO p z; rw [hp] at e; cases e) (r.mono (Gr.upd hp).stay)
theorem kd_map (ds : List (D × D)) : True := trivial

theorem Pk.int {v : V} {i : Int} (h : Pk K O H v (.int i)) : v = .int i := by
  rcases h with h | ⟨a, _, t⟩
  · cases h; rfl
  · cases t
theorem Pk.bool {v : V} {i : Bool} (h : Pk K O H v (.bool i)) : v = .bl i := by
  rcases h with h | ⟨a, _, t⟩
  · cases h; rfl
  · cases t
theorem Pk.none {v : V} (h : Pk K O H v .none) : v = .non := by
  rcases h with h | ⟨a, _, t⟩
  · cases h; rfl
  · cases t
theorem Pk.str {v : V} {i : PySem.Str} (h : Pk K O H v (.str i)) : v = .str i := by
  rcases h with h | ⟨a, _, t⟩
  · cases h; rfl
  · cases t
theorem Pk.list {v : V} {ds : List D} (h : Pk K O H v (.list ds)) : ∃ a xs, v = .ref a ∧ H a = some (.lst xs) ∧ RpA K O H xs ds := by
  rcases h with h | ⟨a, rfl, t⟩
  · cases h with | lst h n r => exact ⟨_, _, rfl, h, r⟩
  · cases t with | lst h r => exact ⟨_, _, rfl, h, r⟩
theorem Pk.tuple {v : V} {ds : List D} (h : Pk K O H v (.tuple ds)) : ∃ a xs, v = .ref a ∧ SqT K H a xs ∧ RpA K O H xs ds ∧ Rp K O H v (.tuple ds) := by
  rcases h with h | ⟨a, rfl, t⟩
  · have h' := h
    cases h with
    | tup h n r => exact ⟨_, _, rfl, SqT.of h, r, h'⟩
    | tupK h r =>
      obtain ⟨o, its, n, e⟩ := h
      exact ⟨_, _, rfl, .inr ⟨o, its, n, e⟩, r, h'⟩
  · cases t
theorem Pk.scr {v : V} {ds : List D} (h : Pk K O H v (.dict [(.list ds, .none)])) (hk : ∀ k : Key, kD k ≠ .list ds) : ∃ a xs, v = .ref a ∧ SqL K H a xs ∧ RpA K O H xs ds := by
  have no : ∀ kvs : List (Key × V), ([(PyData.list ds, PyData.none)] : List (D × D)).map (·.1) = kvs.map (fun p => kD p.1) → False := fun kvs e => by
    cases kvs with
    | nil => cases e
    | cons p r =>
      rw [List.map_cons, List.map_cons] at e
      injection e with e1 _
      exact hk p.1 e1.symm
  rcases h with h | ⟨a, rfl, t⟩
  · cases h with
    | scr h r => exact ⟨_, _, rfl, h.sq, r⟩
    | dK h n e r => exact (no _ e).elim
  · cases t with
    | dK h e r => exact (no _ e).elim
theorem kD_lst {k : Key} {ds : List D} : kD k ≠ .list ds := by cases k <;> (intro z; cases z)
mutual
theorem Rp.dp : ∀ (d : D) (v : V), d.canLay0 = true → Rp K O H v d → Dp K H v d
  | .none, _, _, .non => .non
  | .bool b, _, _, .bl _ => .bl b
  | .int i, _, _, .int _ => .int i
  | .str x, _, _, .str _ => .str x
  | .list ds, _, c, .lst h _ r => .lst (SqL.of h) (Rp.dpAll ds _ (by simpa [PyData.canLay0] using c) r)
  | .tuple ds, _, c, .tup h _ r => .tup (SqT.of h) (Rp.dpAll ds _ (by simpa [PyData.canLay0] using c) r)
  | .tuple ds, _, c, .tupK ⟨o, its, n, e⟩ r => .tup (.inr ⟨o, its, n, e⟩) (Rp.dpAll ds _ (by simpa [PyData.canLay0] using c) r)
  | .dict ds, _, c, _ => by simp [PyData.canLay0] at c
theorem Rp.dpAll : ∀ (ds : List D) (vs : List V), PyData.canLayAll0 ds = true → RpA K O H vs ds → DpAll K H vs ds
  | [], _, _, .nil => .nil
  | d :: ds, _, c, .cons r t => by
    have c' : d.canLay0 = true ∧ PyData.canLayAll0 ds = true := by simpa [PyData.canLayAll0] using c
    exact .cons (Rp.dp d _ c'.1 r) (Rp.dpAll ds _ c'.2 t)
end
theorem Pk.dp {v : V} {d : D} (c : d.canLay0 = true) (h : Pk K O H v d) : Dp K H v d := by
  rcases h with h | ⟨a, rfl, t⟩
  · exact Rp.dp d v c h
  · cases t with
    | lst h r => exact .lst (SqL.of h) (Rp.dpAll _ _ (by simpa [PyData.canLay0] using c) r)
    | dK => simp [PyData.canLay0] at c
    | dT => simp [PyData.canLay0] at c
end

def OpV (K : PySem.W.Frag) (r : R2) (f : D → D → Option BV) : Prop := ∀ (O : AS) (H : Hp) (x y : V) (d e : D) (b : BV) (Q : VK),
  (∀ b, O b → ∃ o, H b = some o) → Pk K O H x d → Pk K O H y e → f d e = some b → (∀ v H', Gr H H' → VRes K O H H' v b → Q v H') → r x y H Q
theorem OpV.or {K : PySem.W.Frag} {r r' : R2} {f f' : D → D → Option BV} (h : OpV K r f) (h' : OpV K r' f') : OpV K (fun x y H Q => r x y H Q ∨ r' x y H Q) (fun d e => (f d e).or (f' d e)) := by
  intro O H x y d e b Q hO px py ef q
  replace ef : (f d e).or (f' d e) = some b := ef
  cases z : f d e with
  | some b' =>
    rw [z] at ef
    cases ef
    exact .inl (h O H x y d e b Q hO px py z q)
  | none =>
    rw [z] at ef
    exact .inr (h' O H x y d e b Q hO px py ef q)
theorem OpV.imp {K : PySem.W.Frag} {r : R2} {f f' : D → D → Option BV} (h : OpV K r f) (i : ∀ d e b, f' d e = some b → f d e = some b) : OpV K r f' :=
  fun O H x y d e b Q hO px py ef q => h O H x y d e b Q hO px py (i d e b ef) q

section
variable {K : PySem.W.Frag}
def iAdd : D → D → Option BV | .int i, .int j => some (.d (.int (i + j))) | _, _ => none
def iSub : D → D → Option BV | .int i, .int j => some (.d (.int (i - j))) | _, _ => none
def mulOk (i j : Int) : Bool := decide (i.natAbs < 2 ^ 64) || decide (j.natAbs < 2 ^ 64)
def iMul : D → D → Option BV | .int i, .int j => if mulOk i j then some (.d (.int (i * j))) else none | _, _ => none
def qdiv (i j : Int) : Int := if 0 < j then i / j else i.fdiv j
def qmod (i j : Int) : Int := if 0 < j then i % j else i.fmod j
def iDiv : D → D → Option BV | .int i, .int j => if decide (j ≠ 0) && decide (j.natAbs < 1073741824) then some (.d (.int (qdiv i j))) else none | _, _ => none
def iMod : D → D → Option BV | .int i, .int j => if j ≠ 0 then some (.d (.int (qmod i j))) else none | _, _ => none
def iPow : D → D → Option BV | .int i, .int j => if decide (0 ≤ j) && decide (j ≤ 1000) && decide (i.natAbs < 2 ^ 64) then some (.d (.int (i ^ j.toNat))) else none | _, _ => none
theorem ov_i0 {g : Int → Int → Int} {f : D → D → Option BV} (h : ∀ d e b, f d e = some b → ∃ i j, d = .int i ∧ e = .int j ∧ b = .d (.int (g i j))) : OpV K (rI0 fun i j => .int (g i j)) f := by
  intro O H x y d e b Q hO px py ef q
  obtain ⟨i, j, rfl, rfl, rfl⟩ := h d e b ef
  exact ⟨i, j, px.int, py.int, q _ _ .refl (.int _)⟩
theorem ov_i {C : Int → Int → Prop} {g : Int → Int → Int} {f : D → D → Option BV} (h : ∀ d e b, f d e = some b → ∃ i j, d = .int i ∧ e = .int j ∧ C i j ∧ b = .d (.int (g i j))) : OpV K (rI C fun i j => .int (g i j)) f := by
  intro O H x y d e b Q hO px py ef q
  obtain ⟨i, j, rfl, rfl, c, rfl⟩ := h d e b ef
  exact ⟨i, j, px.int, py.int, c, q _ _ .refl (.int _)⟩
theorem ov_add : OpV K (rI0 fun i j => .int (i + j)) iAdd := ov_i0 fun d e b h => by
  unfold iAdd at h
  split at h <;> cases h
  exact ⟨_, _, rfl, rfl, rfl⟩
theorem ov_sub : OpV K (rI0 fun i j => .int (i - j)) iSub := ov_i0 fun d e b h => by
  unfold iSub at h
  split at h <;> cases h
  exact ⟨_, _, rfl, rfl, rfl⟩
theorem mulOk_c {i j : Int} (h : mulOk i j = true) : CMul i j := by
  unfold mulOk at h
  rw [Bool.or_eq_true, decide_eq_true_eq, decide_eq_true_eq] at h
  rcases h with h | h
  · exact .inl ⟨by omega, by omega⟩
  · exact .inr ⟨by omega, by omega⟩
theorem ov_mul : OpV K (rI CMul fun i j => .int (i * j)) iMul := ov_i fun d e b h => by
  unfold iMul at h
  split at h
  · split at h
    · rename_i c
      cases h
      exact ⟨_, _, rfl, rfl, mulOk_c c, rfl⟩
    · cases h
  · cases h
theorem ov_div : OpV K (rI CDivN fun i j => .int (i.fdiv j)) iDiv := ov_i fun d e b h => by
  unfold iDiv at h
  split at h
  · split at h
    · rename_i i j c
      rw [Bool.and_eq_true, decide_eq_true_eq, decide_eq_true_eq] at c
      cases h
      refine ⟨_, _, rfl, rfl, c, ?_⟩
      unfold qdiv
      split
      · rw [Int.fdiv_eq_ediv_of_nonneg i (by omega)]
      · rfl
    · cases h
  · cases h
theorem ov_mod : OpV K (rI (fun _ j => j ≠ 0) fun i j => .int (i.fmod j)) iMod := ov_i fun d e b h => by
  unfold iMod at h
  split at h
  · split at h
    · rename_i i j c
      cases h
      refine ⟨_, _, rfl, rfl, c, ?_⟩
      unfold qmod
      split
      · rw [Int.fmod_eq_emod_of_nonneg i (by omega)]
      · rfl
    · cases h
  · cases h
theorem ov_pow : OpV K (rI CPow fun i j => .int (i ^ j.toNat)) iPow := ov_i fun d e b h => by
  unfold iPow at h
  split at h
  · split at h
    · rename_i i j c
      rw [Bool.and_eq_true, Bool.and_eq_true, decide_eq_true_eq, decide_eq_true_eq, decide_eq_true_eq] at c
      cases h
      exact ⟨_, _, rfl, rfl, ⟨c.1.1, by omega, c.2⟩, rfl⟩
    · cases h
  · cases h
def szOk (n : Nat) : Bool := decide (n ≤ sizeLine)
theorem szOk_le {n : Nat} (h : szOk n = true) : n ≤ sizeLine := of_decide_eq_true h
theorem szOk_of {n : Nat} (h : n ≤ 16777216) : szOk n = true := decide_eq_true (by rw [sizeLine_eq]; exact h)
def sAdd : D → D → Option BV | .str x, .str y => if szOk (x.length + y.length) then some (.d (.str (x ++ y))) else none | _, _ => none
def lAdd : D → D → Option BV | .list x, .list y => if szOk (x.length + y.length) then some (.new (.list (x ++ y))) else none | _, _ => none
def tAddD : D → D → Option BV | .tuple x, .tuple y => if szOk (x.length + y.length) then some (.d (.tuple (x ++ y))) else none | _, _ => none
theorem ov_sadd : OpV K (fun x y H Q => ∃ i j, x = .str i ∧ y = .str j ∧ i.length + j.length ≤ sizeLine ∧ Q (.str (i ++ j)) H) sAdd := by
  intro O H x y d e b Q hO px py ef q
  unfold sAdd at ef
  split at ef
  · split at ef
    · rename_i c
      cases ef
      exact ⟨_, _, px.str, py.str, szOk_le c, q _ _ .refl (.str _)⟩
    · cases ef
  · cases ef
theorem ov_ladd : OpV K rCat lAdd := by
  intro O H x y d e b Q hO px py ef q
  unfold lAdd at ef
  split at ef
  · split at ef
    · rename_i c
      cases ef
      obtain ⟨a, xs, rfl, h1, r1⟩ := px.list
      obtain ⟨b, ys, rfl, h2, r2⟩ := py.list
      refine ⟨a, b, xs, ys, rfl, rfl, h1, h2, by rw [r1.length, r2.length]; exact szOk_le c, fun p hp => q _ _ (.upd hp) (vnew_lst hp (r1.append r2))⟩
    · cases ef
  · cases ef
theorem RpA.nil_iff {O : AS} {H : Hp} {xs : List V} {ds : List D} (r : RpA K O H xs ds) : xs = [] ↔ ds = [] := by
  cases r <;> simp
theorem ov_tadd : OpV K (rCatA K) tAddD := by
  intro O H x y d e b Q hO px py ef q
  unfold tAddD at ef
  split at ef
  · split at ef
    · rename_i c
      cases ef
      obtain ⟨a, xs, rfl, h1, r1, p1⟩ := px.tuple
      obtain ⟨b, ys, rfl, h2, r2, p2⟩ := py.tuple
      refine ⟨a, b, xs, ys, rfl, rfl, h1, h2, by rw [r1.length, r2.length]; exact szOk_le c, fun e => ?_, fun _ e => ?_, fun _ _ p hp => q _ _ (.upd hp) (vnew_tup hp hO (r1.append r2))⟩
      · rw [r1.nil_iff.mp e, List.nil_append] at q
        exact q _ _ .refl p2
      · rw [r2.nil_iff.mp e, List.append_nil] at q
        exact q _ _ .refl p1
    · cases ef
  · cases ef
def addD (d e : D) : Option BV := match d, e with
  | .int i, .int j => some (.d (.int (i + j)))
  | .str x, .str y => if szOk (x.length + y.length) then some (.d (.str (x ++ y))) else none
  | .list x, .list y => if szOk (x.length + y.length) then some (.new (.list (x ++ y))) else none
  | .tuple x, .tuple y => if szOk (x.length + y.length) then some (.d (.tuple (x ++ y))) else none
  | _, _ => none
def rAddA (K : PySem.W.Frag) : R2 := fun x y H Q => (rI0 (fun i j => .int (i + j))) x y H Q ∨ (fun x y H Q => (fun x y H Q => ∃ i j, x = .str i ∧ y = .str j ∧ i.length + j.length ≤ sizeLine ∧ Q (.str (i ++ j)) H) x y H Q ∨ (fun x y H Q => rCat x y H Q ∨ rCatA K x y H Q) x y H Q) x y H Q
theorem ov_addA : OpV K (rAddA K) addD := (ov_add.or (ov_sadd.or (ov_ladd.or ov_tadd))).imp fun d e b h => by
  unfold addD at h
  split at h
  · exact h
  · rename_i x y
    have h' : sAdd (.str x) (.str y) = some b := h
    show (sAdd (.str x) (.str y)).or _ = some b
    rw [h']
    rfl
  · rename_i x y
    have h' : lAdd (.list x) (.list y) = some b := h
    show (lAdd (.list x) (.list y)).or _ = some b
    rw [h']
    rfl
  · exact h
  · cases h
theorem op_addA {X : Cx} : OpR X (binaryOp .Add) (rAddA X.K) := op_add.or (op_add_str.or (op_cat.or op_catA))
end
end Nb

namespace Nb
open PySem PySem.Spec PyProof.Rows L2

def SE {ι : Type} (C : Core) (Rs : ι → Rest) (e : Expr) (m : ME) : Prop := ∃ t, (∀ i, PE (cx C (Rs i)) e t) ∧ Snd C.K t m
abbrev MT := VE → Option (Bool × VE)
def SndT (K : PySem.W.Frag) (t : TT) (m : MT) : Prop := ∀ (A : AS) (σ : L2.St) (ρ : VE) (H : Hp) (c : Bool) (ρ' : VE) (Q : Bool → Hp → Prop),
  EOk K A σ ρ H → m ρ = some (c, ρ') → (∀ H', Ext σ ρ H σ ρ' H' → EOk K A σ ρ' H' → Q c H') → t σ H Q
def ST {ι : Type} (C : Core) (Rs : ι → Rest) (e : Expr) (m : MT) : Prop := ∃ t, (∀ i, PT (cx C (Rs i)) e t) ∧ SndT C.K t m
def SC {ι : Type} (C : Core) (Rs : ι → Rest) (e : Expr) (m : ME) : Prop := ∃ t, (∀ i, PE (cx C (Rs i)) e t) ∧ (∀ i, PT (cx C (Rs i)) e (tB t)) ∧ Snd C.K t m
inductive BRA (K : PySem.W.Frag) (A : AS) (σ : L2.St) (ρ : VE) (H : Hp) : List V → List BV → Prop
  | nil : BRA K A σ ρ H [] []
  | cons {v : V} {vs : List V} {r : BV} {rs : List BV} : BR K A σ ρ H v r → BRA K A σ ρ H vs rs → BRA K A σ ρ H (v :: vs) (r :: rs)
abbrev MA := VE → Option (List BV × VE)
def SndA (K : PySem.W.Frag) (t : TA) (m : MA) : Prop := ∀ (A : AS) (σ : L2.St) (ρ : VE) (H : Hp) (rs : List BV) (ρ' : VE) (Q : List V → Hp → Prop),
  EOk K A σ ρ H → m ρ = some (rs, ρ') → (∀ vs H', Ext σ ρ H σ ρ' H' → EOk K A σ ρ' H' → BRA K A σ ρ' H' vs rs → Q vs H') → t σ H Q
def SA {ι : Type} (C : Core) (Rs : ι → Rest) (es : List Expr) (m : MA) : Prop := ∃ t, (∀ i, PA (cx C (Rs i)) es t) ∧ SndA C.K t m

section
variable {K : PySem.W.Frag} {A : AS} {O : AS} {σ : L2.St} {ρ ρ' : VE} {H H' : Hp}
theorem BRA.keep (x : Ext σ ρ H σ ρ' H') : ∀ {vs : List V} {rs : List BV}, BRA K A σ ρ H vs rs → BRA K A σ ρ' H' vs rs
  | _, _, .nil => .nil
  | _, _, .cons r t => .cons (r.keep x) (t.keep x)
inductive PkA (K : PySem.W.Frag) (O : AS) (H : Hp) : List V → List D → Prop
  | nil : PkA K O H [] []
  | cons {v : V} {vs : List V} {d : D} {ds : List D} : Pk K O H v d → PkA K O H vs ds → PkA K O H (v :: vs) (d :: ds)
def peekAll (ρ : VE) : List BV → Option (List D)
  | [] => some []
  | r :: rs => obd (peek ρ r) fun d => obd (peekAll ρ rs) fun ds => some (d :: ds)
def frzAll (ρ : VE) : List BV → Option (List D × VE)
  | [] => some ([], ρ)
  | r :: rs => bnd (frz ρ r) fun d ρ1 => bnd (frzAll ρ1 rs) fun ds ρ2 => some (d :: ds, ρ2)
theorem BRA.peek (E : EOk K A σ ρ H) : ∀ {vs : List V} {rs : List BV} {ds : List D}, BRA K A σ ρ H vs rs → peekAll ρ rs = some ds → PkA K (Av A σ ρ) H vs ds
  | _, _, _, .nil, e => by cases e; exact .nil
  | _, _, _, .cons r t, e => by
    obtain ⟨d, e1, e⟩ := obd_some e
    obtain ⟨ds', e2, e⟩ := obd_some e
    cases e
    exact .cons (r.peek E e1) (BRA.peek E t e2)
theorem frzAll_ok : ∀ {rs : List BV} {vs : List V} {ds : List D} {ρ ρ' : VE}, BRA K A σ ρ H vs rs → EOk K A σ ρ H → frzAll ρ rs = some (ds, ρ') → EOk K A σ ρ' H ∧ Ext σ ρ H σ ρ' H ∧ RpA K (Av A σ ρ') H vs ds
  | _, _, _, _, _, .nil, E, e => by cases e; exact ⟨E, .refl, .nil⟩
  | _, _, _, _, _, .cons r t, E, e => by
    obtain ⟨d, ρ1, e1, e⟩ := bnd_some e
    obtain ⟨ds', ρ2, e2, e⟩ := bnd_some e
    cases e
    obtain ⟨E1, x1, p1⟩ := frz_ok r E e1
    obtain ⟨E2, x2, p2⟩ := frzAll_ok (t.keep x1) E1 e2
    exact ⟨E2, x1.trans x2, .cons (x2.rp p1) p2⟩
end

def varS (i : Nat) (ρ : VE) : Option (Option Sl) → Option (BV × VE)
  | some (some (Sl.sh x)) => some (.d x, ρ)
  | some (some (Sl.own _ _)) => some (.own i, ρ)
  | some (some (Sl.fv a)) => some (.fn a, ρ)
  | _ => none
def mVar (i : Nat) : ME := fun ρ => varS i ρ ρ[i]?
theorem snd_var {K : PySem.W.Frag} {i : Nat} : Snd K (tVar i) (mVar i) := by
  intro A σ ρ H r ρ' Q E e q
  replace e : varS i ρ ρ[i]? = some (r, ρ') := e
  cases z : ρ[i]? with
  | none => rw [z] at e; cases e
  | some o =>
    rw [z] at e
    cases o with
    | none => cases e
    | some sl =>
      cases sl with
      | sh x =>
        cases e
        obtain ⟨v, ev, rp⟩ := E.sh i x z
        exact ⟨v, ev, q v H .refl ⟨E, rp⟩⟩
      | own m x =>
        cases e
        obtain ⟨a, ea, _⟩ := E.own i m x z
        exact ⟨_, ea, q _ H .refl ⟨E, ea⟩⟩
      | fv a =>
        cases e
        have ea := E.fv i a z
        exact ⟨_, ea, q _ H .refl ⟨E, rfl⟩⟩
def mC (d : D) : ME := fun ρ => some (.d d, ρ)
theorem snd_c {K : PySem.W.Frag} {v : V} {d : D} (h : ∀ O H, Rp K O H v d) : Snd K (tC v) (mC d) := by
  intro A σ ρ H r ρ' Q E e q
  cases e
  exact q v H .refl ⟨E, h _ _⟩
section
variable {ι : Type} {C : Core} {Rs : ι → Rest} {a b c e : Expr} {es : List Expr} {ma mb mc m : ME} {pos : Pos}
theorem se_name (i : Nat) {x : PySem.Str} (hN : C.N[i]? = some x := by rfl) (hv : ∀ j, Vis (Rs j).env.scope x := by intro _; first | exact Or.inl rfl | exact Or.inr (Or.inl rfl) | exact Or.inr (Or.inr rfl))
    (hd : (x == ("__debug__" : PySem.Str)) = false := by decide) (hcd : (x == ("__classdict__" : PySem.Str)) = false := by decide) : SE C Rs (.Name x pos) (mVar i) :=
  ⟨_, fun j => pe_var (X := cx C (Rs j)) hN (hv j) hd hcd, snd_var⟩
theorem se_int {i : Int} {j : Nat} : SE C Rs (.Constant (.int i) j pos) (mC (.int i)) := ⟨_, fun _ => pe_int, snd_c fun _ _ => .int i⟩
theorem se_bl {b : Bool} {j : Nat} : SE C Rs (.Constant (.bool b) j pos) (mC (.bool b)) := ⟨_, fun _ => pe_bl, snd_c fun _ _ => .bl b⟩
theorem se_non {j : Nat} : SE C Rs (.Constant .none j pos) (mC .none) := ⟨_, fun _ => pe_non, snd_c fun _ _ => .non⟩
theorem se_str {x : PySem.Str} {j : Nat} : SE C Rs (.Constant (.str x) j pos) (mC (.str x)) := ⟨_, fun _ => pe_str, snd_c fun _ _ => .str x⟩
theorem se_ktup {x : PySem.Str} {ds : List D} {xs : List V} {f : Addr} (hm : C.mg x = some (.ref f)) (hk : KTup C.K f xs) (hr : ∀ O H, RpA C.K O H xs ds) (hg : ∀ i, Gl (cx C (Rs i)) x := by intro _; rfl)
    (hd : (x == ("__debug__" : PySem.Str)) = false := by decide) : SE C Rs (.Name x pos) (mC (.tuple ds)) :=
  ⟨_, fun i => pe_glob (X := cx C (Rs i)) (v := .ref f) (hg i) hm rfl hd, snd_c fun O H => .tupK hk (hr O H)⟩

def mBin (f : D → D → Option BV) (ma mb : ME) : ME := fun ρ => bnd (ma ρ) fun r1 ρ1 => bnd (mb ρ1) fun r2 ρ2 => obd (peek ρ2 r1) fun d => obd (peek ρ2 r2) fun e => obd (f d e) fun b => some (b, ρ2)
theorem res_start {σ σ' : L2.St} {ρ ρ' : VE} {H H' : Hp} (x : Ext σ ρ H σ' ρ' H') (a : Addr) (h : H' a = none) : H a = none := by
  cases e : H a with
  | none => rfl
  | some o =>
    obtain ⟨o', e'⟩ := x.there a o e
    rw [h] at e'
    cases e'
theorem snd_op {K : PySem.W.Frag} {r : R2} {f : D → D → Option BV} {ta tb : TE} (hr : OpV K r f) (ha : Snd K ta ma) (hb : Snd K tb mb) : Snd K (tOp r ta tb) (mBin f ma mb) := by
  intro A σ ρ H rr ρ' Q E e q
  obtain ⟨r1, ρ1, e1, e⟩ := bnd_some e
  obtain ⟨r2, ρ2, e2, e⟩ := bnd_some e
  obtain ⟨d1, p1, e⟩ := obd_some e
  obtain ⟨d2, p2, e⟩ := obd_some e
  obtain ⟨b, eb, e⟩ := obd_some e
  cases e
  refine ha.use E e1 fun x H1 x1 E1 b1 => ?_
  refine hb.use E1 e2 fun y H2 x2 E2 b2 => ?_
  refine hr _ H2 x y d1 d2 _ Q (fun b => E2.there) ((b1.keep x2).peek E2 p1) (b2.peek E2 p2) eb fun v H3 g vr => ?_
  obtain ⟨x3, rs⟩ := vr.lift E2 g (res_start (x1.trans x2))
  exact q v H3 ((x1.trans x2).trans x3) rs
theorem se_bin {op : Operator} {r : R2} {f : D → D → Option BV} (ho : ∀ i, OpR (cx C (Rs i)) (binaryOp op) r) (hr : OpV C.K r f) (ha : SE C Rs a ma) (hb : SE C Rs b mb) : SE C Rs (.BinOp a op b pos) (mBin f ma mb) := by
  obtain ⟨ta, pa, sa⟩ := ha
  obtain ⟨tb, pb, sb⟩ := hb
  exact ⟨_, fun i => pe_op (ho i) (pa i) (pb i), snd_op hr sa sb⟩
theorem se_add (ha : SE C Rs a ma) (hb : SE C Rs b mb) : SE C Rs (.BinOp a .Add b pos) (mBin addD ma mb) := se_bin (r := rAddA C.K) (fun i => op_addA (X := cx C (Rs i))) ov_addA ha hb
theorem se_sub (ha : SE C Rs a ma) (hb : SE C Rs b mb) : SE C Rs (.BinOp a .Sub b pos) (mBin iSub ma mb) := se_bin (fun i => op_sub) ov_sub ha hb
theorem se_mul (ha : SE C Rs a ma) (hb : SE C Rs b mb) : SE C Rs (.BinOp a .Mult b pos) (mBin iMul ma mb) := se_bin (fun i => op_mul) ov_mul ha hb
theorem se_fdiv (ha : SE C Rs a ma) (hb : SE C Rs b mb) : SE C Rs (.BinOp a .FloorDiv b pos) (mBin iDiv ma mb) := se_bin (fun i => op_fdivN) ov_div ha hb
theorem se_mod (ha : SE C Rs a ma) (hb : SE C Rs b mb) : SE C Rs (.BinOp a .Mod b pos) (mBin iMod ma mb) := se_bin (fun i => op_modN) ov_mod ha hb
theorem se_pow (ha : SE C Rs a ma) (hb : SE C Rs b mb) : SE C Rs (.BinOp a .Pow b pos) (mBin iPow ma mb) := se_bin (fun i => op_pow) ov_pow ha hb
def iNeg : D → Option BV | .int i => some (.d (.int (-i))) | _ => none
def mUn (f : D → Option BV) (ma : ME) : ME := fun ρ => bnd (ma ρ) fun r ρ1 => obd (peek ρ1 r) fun d => obd (f d) fun b => some (b, ρ1)
theorem se_neg (ha : SE C Rs a ma) : SE C Rs (.UnaryOp .USub a pos) (mUn iNeg ma) := by
  obtain ⟨ta, pa, sa⟩ := ha
  refine ⟨_, fun i => pe_un un_neg (pa i), fun A σ ρ H r ρ' Q E e q => ?_⟩
  obtain ⟨r1, ρ1, e1, e⟩ := bnd_some e
  obtain ⟨d1, p1, e⟩ := obd_some e
  obtain ⟨b, eb, e⟩ := obd_some e
  cases e
  refine sa.use E e1 fun x H1 x1 E1 b1 => ?_
  unfold iNeg at eb
  split at eb <;> cases eb
  exact ⟨_, (b1.peek E1 p1).int, q _ _ x1 ⟨E1, .int _⟩⟩

def eqD (d e : D) : Option BV := match d, e with
  | .int i, .int j => some (.d (.bool (i == j)))
  | .str x, .str y => some (.d (.bool (x == y)))
  | d, e => if SeqAt.shaped d && SeqAt.shaped e then some (.d (.bool (PyData.eqv d e))) else none
def neD (d e : D) : Option BV := match d, e with
  | .int i, .int j => some (.d (.bool (i != j)))
  | .str x, .str y => some (.d (.bool (x != y)))
  | d, e => if SeqAt.shaped d && SeqAt.shaped e then some (.d (.bool (!PyData.eqv d e))) else none
def rEqA (K : PySem.W.Frag) : R2 := fun x y H Q => rEq x y H Q ∨ rEqD K x y H Q
def rNeA (K : PySem.W.Frag) : R2 := fun x y H Q => rNe x y H Q ∨ rNeD K x y H Q
theorem shaped_lay {d : D} (h : SeqAt.shaped d = true) : d.canLay0 = true := SeqAt.canLay_of_shaped h
theorem ov_eq {K : PySem.W.Frag} : OpV K (rEqA K) eqD := by
  intro O H x y d e b Q hO px py ef q
  unfold eqD at ef
  split at ef
  · cases ef
    rw [px.int, py.int]
    exact .inl ⟨rfl, by rw [dec_int]; exact q _ _ .refl (.bl _)⟩
  · cases ef
    rw [px.str, py.str]
    exact .inl ⟨rfl, by rw [dec_str]; exact q _ _ .refl (.bl _)⟩
  · split at ef
    · rename_i c
      rw [Bool.and_eq_true] at c
      cases ef
      exact .inr ⟨_, _, px.dp (shaped_lay c.1), py.dp (shaped_lay c.2), c.1, c.2, q _ _ .refl (.bl _)⟩
    · cases ef
theorem ov_ne {K : PySem.W.Frag} : OpV K (rNeA K) neD := by
  intro O H x y d e b Q hO px py ef q
  unfold neD at ef
  split at ef
  · cases ef
    rw [px.int, py.int]
    exact .inl ⟨rfl, by rw [dec_int]; exact q _ _ .refl (.bl _)⟩
  · cases ef
    rw [px.str, py.str]
    exact .inl ⟨rfl, by rw [dec_str]; exact q _ _ .refl (.bl _)⟩
  · split at ef
    · rename_i c
      rw [Bool.and_eq_true] at c
      cases ef
      exact .inr ⟨_, _, px.dp (shaped_lay c.1), py.dp (shaped_lay c.2), c.1, c.2, q _ _ .refl (.bl _)⟩
    · cases ef
theorem sc_cmp {op : CmpOp} {r : R2} {f : D → D → Option BV} (ho : ∀ i, OpR (cx C (Rs i)) (compareOp op) r) (hr : OpV C.K r f) (ha : SE C Rs a ma) (hb : SE C Rs b mb) (hm : behindInMarks op b = false) : SC C Rs (.Compare a [op] [b] pos) (mBin f ma mb) := by
  obtain ⟨ta, pa, sa⟩ := ha
  obtain ⟨tb, pb, sb⟩ := hb
  exact ⟨_, fun i => pe_cmpR (ho i) (pa i) (pb i) hm, fun i => pt_cmpR (ho i) (pa i) (pb i) hm, snd_op hr sa sb⟩
def ltD (d e : D) : Option BV := match d, e with
  | .int i, .int j => some (.d (.bool (decide (i < j))))
  | .str x, .str y => some (.d (.bool (decide (x.cps.toList < y.cps.toList))))
  | _, _ => none
def leD (d e : D) : Option BV := match d, e with
  | .int i, .int j => some (.d (.bool (decide (i ≤ j))))
  | .str x, .str y => some (.d (.bool (!decide (y.cps.toList < x.cps.toList))))
  | _, _ => none
def gtD (d e : D) : Option BV := match d, e with
  | .int i, .int j => some (.d (.bool (decide (j < i))))
  | .str x, .str y => some (.d (.bool (decide (y.cps.toList < x.cps.toList))))
  | _, _ => none
def geD (d e : D) : Option BV := match d, e with
  | .int i, .int j => some (.d (.bool (decide (j ≤ i))))
  | .str x, .str y => some (.d (.bool (!decide (x.cps.toList < y.cps.toList))))
  | _, _ => none
theorem ov_ord {K : PySem.W.Frag} {f : D → D → Option BV} {p : Int → Int → Bool} {s : PySem.Str → PySem.Str → Bool} (h : ∀ d e b, f d e = some b → (∃ i j, d = .int i ∧ e = .int j ∧ b = .d (.bool (p i j))) ∨ ∃ i j, d = .str i ∧ e = .str j ∧ b = .d (.bool (s i j))) :
    OpV K (fun x y H Q => rI0 (fun i j => .bl (p i j)) x y H Q ∨ (fun x y H Q => ∃ i j, x = .str i ∧ y = .str j ∧ Q (.bl (s i j)) H) x y H Q) f := by
  intro O H x y d e b Q hO px py ef q
  rcases h d e b ef with ⟨i, j, rfl, rfl, rfl⟩ | ⟨i, j, rfl, rfl, rfl⟩
  · exact .inl ⟨_, _, px.int, py.int, q _ _ .refl (.bl _)⟩
  · exact .inr ⟨_, _, px.str, py.str, q _ _ .refl (.bl _)⟩
theorem sc_eq (ha : SE C Rs a ma) (hb : SE C Rs b mb) (hu : C.A.units + 64 < cLine) : SC C Rs (.Compare a [.Eq] [b] pos) (mBin eqD ma mb) :=
  sc_cmp (r := rEqA C.K) (fun i => op_eq.or (op_eqD (X := cx C (Rs i)) hu)) ov_eq ha hb (nomark _)
theorem sc_ne (ha : SE C Rs a ma) (hb : SE C Rs b mb) (hu : C.A.units + 64 < cLine) : SC C Rs (.Compare a [.NotEq] [b] pos) (mBin neD ma mb) :=
  sc_cmp (r := rNeA C.K) (fun i => op_ne.or (op_neD (X := cx C (Rs i)) hu)) ov_ne ha hb (nomark _)
theorem sc_lt (ha : SE C Rs a ma) (hb : SE C Rs b mb) : SC C Rs (.Compare a [.Lt] [b] pos) (mBin ltD ma mb) :=
  sc_cmp (fun i => op_lt.or op_lt_str) (ov_ord fun d e b h => by unfold ltD at h; split at h <;> cases h <;> first | exact .inl ⟨_, _, rfl, rfl, rfl⟩ | exact .inr ⟨_, _, rfl, rfl, rfl⟩) ha hb (nomark _)
theorem sc_le (ha : SE C Rs a ma) (hb : SE C Rs b mb) : SC C Rs (.Compare a [.LtE] [b] pos) (mBin leD ma mb) :=
  sc_cmp (fun i => op_le.or op_le_str) (ov_ord fun d e b h => by unfold leD at h; split at h <;> cases h <;> first | exact .inl ⟨_, _, rfl, rfl, rfl⟩ | exact .inr ⟨_, _, rfl, rfl, rfl⟩) ha hb (nomark _)
theorem sc_gt (ha : SE C Rs a ma) (hb : SE C Rs b mb) : SC C Rs (.Compare a [.Gt] [b] pos) (mBin gtD ma mb) :=
  sc_cmp (fun i => op_gt.or op_gt_str) (ov_ord fun d e b h => by unfold gtD at h; split at h <;> cases h <;> first | exact .inl ⟨_, _, rfl, rfl, rfl⟩ | exact .inr ⟨_, _, rfl, rfl, rfl⟩) ha hb (nomark _)
theorem sc_ge (ha : SE C Rs a ma) (hb : SE C Rs b mb) : SC C Rs (.Compare a [.GtE] [b] pos) (mBin geD ma mb) :=
  sc_cmp (fun i => op_ge.or op_ge_str) (ov_ord fun d e b h => by unfold geD at h; split at h <;> cases h <;> first | exact .inl ⟨_, _, rfl, rfl, rfl⟩ | exact .inr ⟨_, _, rfl, rfl, rfl⟩) ha hb (nomark _)
def isND (d : D) : Bool := match d with | .none => true | _ => false
def mIsN (ma : ME) : ME := mUn (fun d => some (.d (.bool (isND d)))) ma
def mNotN (ma : ME) : ME := mUn (fun d => some (.d (.bool (!isND d)))) ma
theorem pk_isN {K : PySem.W.Frag} {O : AS} {H : Hp} {v : V} {d : D} (h : Pk K O H v d) : decide (v = .non) = isND d := by
  rcases h with h | ⟨a, rfl, t⟩
  · cases h <;> simp [isND]
  · cases t <;> simp [isND]
theorem sc_isN {j pos'} (ha : SE C Rs a ma) : SC C Rs (.Compare a [.Is] [.Constant .none j pos'] pos) (mIsN ma) := by
  obtain ⟨ta, pa, sa⟩ := ha
  refine ⟨_, fun i => pe_cmp (pc_isN (pa i)), fun i => pt_cmp (pc_isN (pa i)), fun A σ ρ H r ρ' Q E e q => ?_⟩
  obtain ⟨r1, ρ1, e1, e⟩ := bnd_some e
  obtain ⟨d1, p1, e⟩ := obd_some e
  obtain ⟨b, eb, e⟩ := obd_some e
  cases e
  cases eb
  refine sa.use E e1 fun x H1 x1 E1 b1 => ?_
  rw [pk_isN (b1.peek E1 p1)]
  exact q _ _ x1 ⟨E1, .bl _⟩
theorem sc_notN {j pos'} (ha : SE C Rs a ma) : SC C Rs (.Compare a [.IsNot] [.Constant .none j pos'] pos) (mNotN ma) := by
  obtain ⟨ta, pa, sa⟩ := ha
  refine ⟨_, fun i => pe_cmp (pc_notN (pa i)), fun i => pt_cmp (pc_notN (pa i)), fun A σ ρ H r ρ' Q E e q => ?_⟩
  obtain ⟨r1, ρ1, e1, e⟩ := bnd_some e
  obtain ⟨d1, p1, e⟩ := obd_some e
  obtain ⟨b, eb, e⟩ := obd_some e
  cases e
  cases eb
  refine sa.use E e1 fun x H1 x1 E1 b1 => ?_
  rw [pk_isN (b1.peek E1 p1)]
  exact q _ _ x1 ⟨E1, .bl _⟩
def isBD (d e : D) : Option BV := match d, e with | .bool a, .bool b => some (.d (.bool (decide (a = b)))) | _, _ => none
def notBD (d e : D) : Option BV := match d, e with | .bool a, .bool b => some (.d (.bool (!decide (a = b)))) | _, _ => none
theorem ov_isB {K : PySem.W.Frag} : OpV K rIsB isBD := by
  intro O H x y d e b Q hO px py ef q
  unfold isBD at ef
  split at ef <;> cases ef
  exact ⟨_, _, px.bool, py.bool, q _ _ .refl (.bl _)⟩
theorem ov_notB {K : PySem.W.Frag} : OpV K rNotB notBD := by
  intro O H x y d e b Q hO px py ef q
  unfold notBD at ef
  split at ef <;> cases ef
  exact ⟨_, _, px.bool, py.bool, q _ _ .refl (.bl _)⟩
theorem sc_isB (ha : SE C Rs a ma) (hb : SE C Rs b mb) : SC C Rs (.Compare a [.Is] [b] pos) (mBin isBD ma mb) := sc_cmp (fun i => op_isBl) ov_isB ha hb (nomark _)
theorem sc_notB (ha : SE C Rs a ma) (hb : SE C Rs b mb) : SC C Rs (.Compare a [.IsNot] [b] pos) (mBin notBD ma mb) := sc_cmp (fun i => op_notBl) ov_notB ha hb (nomark _)
theorem SC.ex {m : ME} (h : SC C Rs e m) : SE C Rs e m := let ⟨t, p, _, s⟩ := h; ⟨t, p, s⟩
def isB : BV → Option Bool | .d (.bool b) => some b | _ => none
def mB (m : ME) : MT := fun ρ => bnd (m ρ) fun r ρ1 => obd (isB r) fun b => some (b, ρ1)
theorem snd_b {K : PySem.W.Frag} {t : TE} {m : ME} (h : Snd K t m) : SndT K (tB t) (mB m) := by
  intro A σ ρ H c ρ' Q E e q
  obtain ⟨r1, ρ1, e1, e⟩ := bnd_some e
  obtain ⟨b, eb, e⟩ := obd_some e
  cases e
  refine h.use E e1 fun x H1 x1 E1 b1 => ?_
  unfold isB at eb
  split at eb <;> cases eb
  have b1' : Rp K (Av A σ ρ') H1 x (.bool c) := b1
  cases b1'
  exact ⟨c, rfl, q H1 x1 E1⟩
theorem SC.tst {m : ME} (h : SC C Rs e m) : ST C Rs e (mB m) := let ⟨t, _, p, s⟩ := h; ⟨tB t, p, snd_b s⟩
def truD : D → Option Bool
  | .none => some false
  | .bool b => some b
  | .int i => some (i != 0)
  | .str y => if szOk y.length then some ((y.length : Int) != 0) else none
  | .list xs => some (!xs.isEmpty)
  | .tuple xs => some (!xs.isEmpty)
  | .dict _ => none
def mTru (m : ME) : MT := fun ρ => bnd (m ρ) fun r ρ1 => obd (peek ρ1 r) fun d => obd (truD d) fun b => some (b, ρ1)
theorem RpA.isEmpty {K : PySem.W.Frag} {O : AS} {H : Hp} {xs : List V} {ds : List D} (r : RpA K O H xs ds) : xs.isEmpty = ds.isEmpty := by cases r <;> rfl
theorem truV_of {K : PySem.W.Frag} {O : AS} {H : Hp} {v : V} {d : D} {b : Bool} (h : Pk K O H v d) (e : truD d = some b) : TruV K v H b := by
  cases d with
  | none => cases e; rw [h.none]; rfl
  | bool c => cases e; rw [h.bool]; rfl
  | int i => cases e; rw [h.int]; rfl
  | str y =>
    rw [h.str]
    replace e : (if szOk y.length then some ((y.length : Int) != 0) else none) = some b := e
    split at e
    · rename_i c
      cases e
      exact ⟨szOk_le c, rfl⟩
    · cases e
  | list xs =>
    cases e
    obtain ⟨a, vs, rfl, h1, r⟩ := h.list
    exact .inl ⟨vs, SqL.of h1, by rw [r.isEmpty]⟩
  | tuple xs =>
    cases e
    obtain ⟨a, vs, rfl, h1, r, _⟩ := h.tuple
    exact .inr (.inl ⟨vs, h1, by rw [r.isEmpty]⟩)
  | dict kvs => cases e
theorem st_tru (ha : SE C Rs e m) (he : ∀ i whole, isTrue e (Rs i).env whole = (do let v ← whole; standAt e.pos; holding [v] (truthy v)) := by intro _ _; rfl) : ST C Rs e (mTru m) := by
  obtain ⟨ta, pa, sa⟩ := ha
  refine ⟨fun σ H Q => ta σ H fun x H' => ∃ k, TruV C.K x H' k ∧ Q k H', fun i => pt_truth (X := cx C (Rs i)) (pa i) (he i), fun A σ ρ H c ρ' Q E e q => ?_⟩
  obtain ⟨r1, ρ1, e1, e⟩ := bnd_some e
  obtain ⟨d1, p1, e⟩ := obd_some e
  obtain ⟨b, eb, e⟩ := obd_some e
  cases e
  refine sa.use E e1 fun x H1 x1 E1 b1 => ?_
  exact ⟨c, truV_of (b1.peek E1 p1) eb, q H1 x1 E1⟩
def mNotT (m : MT) : MT := fun ρ => bnd (m ρ) fun b ρ1 => some (!b, ρ1)
theorem st_not {m : MT} (ha : ST C Rs a m) : ST C Rs (.UnaryOp .Not a pos) (mNotT m) := by
  obtain ⟨ta, pa, sa⟩ := ha
  refine ⟨_, fun i => pt_not (pa i), fun A σ ρ H c ρ' Q E e q => ?_⟩
  obtain ⟨b, ρ1, e1, e⟩ := bnd_some e
  cases e
  exact sa A σ ρ H b ρ' _ E e1 fun H1 x1 E1 => q H1 x1 E1
def SW {ι : Type} (C : Core) (Rs : ι → Rest) (e : Expr) (m : MT) : Prop := ∃ t, (∀ i, PW (cx C (Rs i)) e t) ∧ SndT C.K t m
theorem SW.tst {m : MT} (h : SW C Rs e m) : ST C Rs e m := let ⟨t, p, s⟩ := h; ⟨t, fun i => (p i).pt, s⟩
theorem sw_and1 {m : MT} (h : ST C Rs a m) : SW C Rs (.BoolOp .And [a] pos) m := let ⟨t, p, s⟩ := h; ⟨t, fun i => pw_and1 (p i), s⟩
theorem sw_or1 {m : MT} (h : ST C Rs a m) : SW C Rs (.BoolOp .Or [a] pos) m := let ⟨t, p, s⟩ := h; ⟨t, fun i => pw_or1 (p i), s⟩
def mAndT (m m' : MT) : MT := fun ρ => bnd (m ρ) fun b ρ1 => if b then m' ρ1 else some (false, ρ1)
def mOrT (m m' : MT) : MT := fun ρ => bnd (m ρ) fun b ρ1 => if b then some (true, ρ1) else m' ρ1
theorem sw_and {m m' : MT} (h : ST C Rs a m) (h' : SW C Rs (.BoolOp .And (b :: es) pos) m') : SW C Rs (.BoolOp .And (a :: b :: es) pos) (mAndT m m') := by
  obtain ⟨ta, pa, sa⟩ := h
  obtain ⟨tb, pb, sb⟩ := h'
  refine ⟨_, fun i => pw_and (pa i) (pb i), fun A σ ρ H c ρ' Q E e q => ?_⟩
  obtain ⟨b, ρ1, e1, e⟩ := bnd_some e
  refine sa A σ ρ H b ρ1 _ E e1 fun H1 x1 E1 => ?_
  cases b with
  | true =>
    rw [if_pos rfl]
    exact sb A σ ρ1 H1 c ρ' Q E1 e fun H2 x2 E2 => q H2 (x1.trans x2) E2
  | false =>
    cases e
    exact q H1 x1 E1
theorem sw_or {m m' : MT} (h : ST C Rs a m) (h' : SW C Rs (.BoolOp .Or (b :: es) pos) m') : SW C Rs (.BoolOp .Or (a :: b :: es) pos) (mOrT m m') := by
  obtain ⟨ta, pa, sa⟩ := h
  obtain ⟨tb, pb, sb⟩ := h'
  refine ⟨_, fun i => pw_or (pa i) (pb i), fun A σ ρ H c ρ' Q E e q => ?_⟩
  obtain ⟨b, ρ1, e1, e⟩ := bnd_some e
  refine sa A σ ρ H b ρ1 _ E e1 fun H1 x1 E1 => ?_
  cases b with
  | false =>
    rw [if_neg Bool.false_ne_true]
    exact sb A σ ρ1 H1 c ρ' Q E1 e fun H2 x2 E2 => q H2 (x1.trans x2) E2
  | true =>
    cases e
    exact q H1 x1 E1
def mAndV (m m' : ME) : ME := fun ρ => bnd (m ρ) fun r ρ1 => obd (isB r) fun b => if b then m' ρ1 else some (.d (.bool false), ρ1)
def mOrV (m m' : ME) : ME := fun ρ => bnd (m ρ) fun r ρ1 => obd (isB r) fun b => if b then some (.d (.bool true), ρ1) else m' ρ1
def mNotV (m : ME) : ME := fun ρ => bnd (m ρ) fun r ρ1 => obd (isB r) fun b => some (.d (.bool (!b)), ρ1)
theorem se_one {op : BoolOp} (h : SE C Rs a m) : SE C Rs (.BoolOp op [a] pos) m := let ⟨t, p, s⟩ := h; ⟨t, fun i => pe_one (p i), s⟩
theorem br_bool {K : PySem.W.Frag} {A : AS} {σ : L2.St} {ρ : VE} {H : Hp} {v : V} {r : BV} {c : Bool} (h : BR K A σ ρ H v r) (e : isB r = some c) : v = .bl c := by
  unfold isB at e
  split at e <;> cases e
  have b1' : Rp K (Av A σ ρ) H v (.bool c) := h
  cases b1'
  rfl
theorem Res.from {K : PySem.W.Frag} {A : AS} {σ : L2.St} {ρ ρ1 ρ' : VE} {H H1 H' : Hp} {v : V} {r : BV} (x : Ext σ ρ H σ ρ1 H1) (h : Res K A σ ρ' H1 H' v r) : Res K A σ ρ' H H' v r := by
  cases r with
  | d y => exact h
  | own i => exact h
  | fn f => exact h
  | new y =>
    obtain ⟨a, e, hn, rest⟩ := h
    exact ⟨a, e, res_start x a hn, rest⟩
theorem se_and {m m' : ME} (h : SE C Rs a m) (h' : SE C Rs (.BoolOp .And (b :: es) pos) m') : SE C Rs (.BoolOp .And (a :: b :: es) pos) (mAndV m m') := by
  obtain ⟨ta, pa, sa⟩ := h
  obtain ⟨tb, pb, sb⟩ := h'
  refine ⟨_, fun i => pe_and (pa i) (pb i), fun A σ ρ H c ρ' Q E e q => ?_⟩
  obtain ⟨r, ρ1, e1, e⟩ := bnd_some e
  obtain ⟨b, eb, e⟩ := obd_some e
  refine sa.use E e1 fun x H1 x1 E1 b1 => ?_
  refine ⟨b, br_bool b1 eb, ?_⟩
  cases b with
  | true =>
    rw [if_pos rfl]
    exact sb A σ ρ1 H1 c ρ' Q E1 e fun v H2 x2 E2 => q v H2 (x1.trans x2) (E2.from x1)
  | false =>
    cases e
    exact q _ H1 x1 ⟨E1, .bl _⟩
theorem se_or {m m' : ME} (h : SE C Rs a m) (h' : SE C Rs (.BoolOp .Or (b :: es) pos) m') : SE C Rs (.BoolOp .Or (a :: b :: es) pos) (mOrV m m') := by
  obtain ⟨ta, pa, sa⟩ := h
  obtain ⟨tb, pb, sb⟩ := h'
  refine ⟨_, fun i => pe_or (pa i) (pb i), fun A σ ρ H c ρ' Q E e q => ?_⟩
  obtain ⟨r, ρ1, e1, e⟩ := bnd_some e
  obtain ⟨b, eb, e⟩ := obd_some e
  refine sa.use E e1 fun x H1 x1 E1 b1 => ?_
  refine ⟨b, br_bool b1 eb, ?_⟩
  cases b with
  | false =>
    rw [if_neg Bool.false_ne_true]
    exact sb A σ ρ1 H1 c ρ' Q E1 e fun v H2 x2 E2 => q v H2 (x1.trans x2) (E2.from x1)
  | true =>
    cases e
    exact q _ H1 x1 ⟨E1, .bl _⟩
theorem se_not {m : ME} (h : SE C Rs a m) : SE C Rs (.UnaryOp .Not a pos) (mNotV m) := by
  obtain ⟨ta, pa, sa⟩ := h
  refine ⟨_, fun i => pe_not (pa i), fun A σ ρ H c ρ' Q E e q => ?_⟩
  obtain ⟨r, ρ1, e1, e⟩ := bnd_some e
  obtain ⟨b, eb, e⟩ := obd_some e
  cases e
  refine sa.use E e1 fun x H1 x1 E1 b1 => ?_
  exact ⟨b, br_bool b1 eb, q _ H1 x1 ⟨E1, .bl _⟩⟩
def mIf (mt : MT) (ma mb : ME) : ME := fun ρ => bnd (mt ρ) fun b ρ1 => if b then ma ρ1 else mb ρ1
theorem se_if {mt : MT} (hc : ST C Rs c mt) (ha : SE C Rs a ma) (hb : SE C Rs b mb) : SE C Rs (.IfExp c a b pos) (mIf mt ma mb) := by
  obtain ⟨tc, pc, sc⟩ := hc
  obtain ⟨ta, pa, sa⟩ := ha
  obtain ⟨tb, pb, sb⟩ := hb
  refine ⟨_, fun i => pe_ifExp (pc i) (pa i) (pb i), fun A σ ρ H r ρ' Q E e q => ?_⟩
  obtain ⟨b, ρ1, e1, e⟩ := bnd_some e
  refine sc A σ ρ H b ρ1 _ E e1 fun H1 x1 E1 => ?_
  cases b with
  | true =>
    rw [if_pos rfl]
    exact sa A σ ρ1 H1 r ρ' Q E1 e fun v H2 x2 E2 => q v H2 (x1.trans x2) (E2.from x1)
  | false =>
    rw [if_neg Bool.false_ne_true]
    exact sb A σ ρ1 H1 r ρ' Q E1 e fun v H2 x2 E2 => q v H2 (x1.trans x2) (E2.from x1)
def mChain (f g : D → D → Option BV) (ma mb mc : ME) : ME := fun ρ => bnd (ma ρ) fun r1 ρ1 => bnd (mb ρ1) fun r2 ρ2 => obd (peek ρ2 r1) fun d => obd (peek ρ2 r2) fun e => obd (f d e) fun x => obd (isB x) fun k =>
  if k then bnd (mc ρ2) fun r3 ρ3 => obd (peek ρ3 r2) fun e' => obd (peek ρ3 r3) fun h => obd (g e' h) fun y => obd (isB y) fun k' => some (.d (.bool k'), ρ3) else some (.d (.bool false), ρ2)
theorem vres_bool {K : PySem.W.Frag} {O : AS} {H H' : Hp} {v : V} {b : BV} {k : Bool} (h : VRes K O H H' v b) (e : isB b = some k) : v = .bl k := by
  unfold isB at e
  split at e <;> cases e
  have h' : Rp K O H' v (.bool k) := h
  cases h'
  rfl
theorem sc_chain {op op' : CmpOp} {r r' : R2} {f g : D → D → Option BV} (ho : ∀ i, OpR (cx C (Rs i)) (compareOp op) r) (hr : OpV C.K r f) (ho' : ∀ i, OpR (cx C (Rs i)) (compareOp op') r') (hr' : OpV C.K r' g)
    (ha : SE C Rs a ma) (hb : SE C Rs b mb) (hc : SE C Rs c mc) (hm : lastMarks [op, op'] [b, c] = false := by with_unfolding_all rfl) : SC C Rs (.Compare a [op, op'] [b, c] pos) (mChain f g ma mb mc) := by
  obtain ⟨ta, pa, sa⟩ := ha
  obtain ⟨tb, pb, sb⟩ := hb
  obtain ⟨tc, pc, sc⟩ := hc
  refine ⟨_, fun i => pe_chain (ho i) (ho' i) (pa i) (pb i) (pc i) hm, fun i => pt_chain (ho i) (ho' i) (pa i) (pb i) (pc i) hm, fun A σ ρ H rr ρ' Q E e q => ?_⟩
  obtain ⟨r1, ρ1, e1, e⟩ := bnd_some e
  obtain ⟨r2, ρ2, e2, e⟩ := bnd_some e
  obtain ⟨d1, p1, e⟩ := obd_some e
  obtain ⟨d2, p2, e⟩ := obd_some e
  obtain ⟨b, eb, e⟩ := obd_some e
  obtain ⟨k, ek, e⟩ := obd_some e
  refine sa.use E e1 fun x H1 x1 E1 b1 => ?_
  refine sb.use E1 e2 fun y H2 x2 E2 b2 => ?_
  refine hr _ H2 x y d1 d2 _ _ (fun b => E2.there) ((b1.keep x2).peek E2 p1) (b2.peek E2 p2) eb fun v H3 g3 vr => ?_
  have x3 : Ext σ ρ2 H2 σ ρ2 H3 := .grow g3
  have E3 : EOk C.K A σ ρ2 H3 := E2.grow g3 fun b z => .inl z
  refine ⟨k, vres_bool vr ek, ?_⟩
  cases k with
  | false =>
    cases e
    exact q _ H3 ((x1.trans x2).trans x3) ⟨E3, .bl _⟩
  | true =>
    obtain ⟨r3, ρ3, e3, e⟩ := bnd_some e
    obtain ⟨d2', p2', e⟩ := obd_some e
    obtain ⟨d3, p3, e⟩ := obd_some e
    obtain ⟨b', eb', e⟩ := obd_some e
    obtain ⟨k', ek', e⟩ := obd_some e
    cases e
    refine sc.use E3 e3 fun z H4 x4 E4 b4 => ?_
    refine hr' _ H4 y z _ _ _ _ (fun b => E4.there) (((b2.keep x3).keep x4).peek E4 p2') (b4.peek E4 p3) eb' fun v' H5 g5 vr' => ?_
    have x5 : Ext σ ρ' H4 σ ρ' H5 := .grow g5
    have ev := vres_bool vr' ek'
    subst ev
    exact q _ H5 (((x1.trans x2).trans x3).trans (x4.trans x5)) ⟨E4.grow g5 fun b z => .inl z, .bl _⟩
end
end Nb

namespace Nb
open PySem PySem.Spec PyProof.Rows L2

def setOk : Option (Option Sl) → Bool
  | some (some (Sl.own .io _)) => false
  | some (some (Sl.own .lk _)) => false
  | some _ => true
  | none => false
section
variable {K : PySem.W.Frag} {A : AS} {O : AS} {σ σ' : L2.St} {ρ ρ' : VE} {H H' : Hp}
theorem setOk_lt {i : Nat} (h : setOk ρ[i]? = true) : i < ρ.length := by
  cases e : ρ[i]? with
  | none => rw [e] at h; cases h
  | some o => exact (List.getElem?_eq_some_iff.mp e).1
theorem setOk_io {i : Nat} (h : setOk ρ[i]? = true) : (∀ d, ρ[i]? ≠ some (some (Sl.own .io d))) ∧ ∀ d, ρ[i]? ≠ some (some (Sl.own .lk d)) := by
  constructor <;> (intro d e; rw [e] at h; cases h)
theorem set_sh {i : Nat} {v : V} {sl : Sl} (E : EOk K A σ ρ H) (hi : setOk ρ[i]? = true) (hs : (∃ d, sl = .sh d ∧ Rp K (Av A σ ρ) H v d) ∨ ∃ f, sl = .fv f ∧ v = .ref f) :
    EOk K A (σ.set i (some v)) (ρ.set i (some sl)) H ∧ Ext σ ρ H (σ.set i (some v)) (ρ.set i (some sl)) H := by
  have hl := setOk_lt hi
  have hlσ : i < σ.length := by rw [E.len]; exact hl
  have nown : ∀ m d, some sl ≠ some (Sl.own m d) := fun m d z => by
    rcases hs with ⟨x, rfl, _⟩ | ⟨f, rfl, _⟩ <;> cases z
  have old : ∀ b, Own (σ.set i (some v)) (ρ.set i (some sl)) b → ∃ j m d, j ≠ i ∧ ρ[j]? = some (some (Sl.own m d)) ∧ σ[j]? = some (some (V.ref b)) := fun b ⟨j, m, d, e, s⟩ => by
    by_cases hj : j = i
    · subst hj
      rw [List.getElem?_set_self hl] at e
      exact absurd (Option.some.inj e) (nown m d)
    · rw [List.getElem?_set_ne (Ne.symm hj)] at e s
      exact ⟨j, m, d, hj, e, s⟩
  have sub : ∀ b, Own (σ.set i (some v)) (ρ.set i (some sl)) b → Own σ ρ b := fun b z => let ⟨j, m, d, _, e, s⟩ := old b z; ⟨j, m, d, e, s⟩
  have st : Stay (Av A σ ρ) H (Av A (σ.set i (some v)) (ρ.set i (some sl))) H := fun b o e n => ⟨fun z => n (z.elim .inl fun z => .inr (sub b z)), .inl e⟩
  refine ⟨⟨by simpa using E.len, E.dom, fun j d ej => ?_, fun j m d ej => ?_, fun j a ej => ?_, fun j k m n d e a ej ek sj sk => ?_⟩, ⟨fun b o e _ => e, fun b o e => ⟨o, e⟩, fun b z => .inl (sub b z), fun b z => ?_, fun j d ej => ?_⟩⟩
  · by_cases hj : j = i
    · subst hj
      rw [List.getElem?_set_self hl] at ej
      rcases hs with ⟨x, rfl, r⟩ | ⟨f, rfl, _⟩
      · cases ej
        exact ⟨v, List.getElem?_set_self hlσ, r.mono st⟩
      · cases ej
    · rw [List.getElem?_set_ne (Ne.symm hj)] at ej
      obtain ⟨w, ew, r⟩ := E.sh j d ej
      exact ⟨w, by rw [List.getElem?_set_ne (Ne.symm hj)]; exact ew, r.mono st⟩
  · by_cases hj : j = i
    · subst hj
      rw [List.getElem?_set_self hl] at ej
      exact absurd (Option.some.inj ej) (nown m d)
    · rw [List.getElem?_set_ne (Ne.symm hj)] at ej
      obtain ⟨a, ea, t, n, f⟩ := E.own j m d ej
      exact ⟨a, by rw [List.getElem?_set_ne (Ne.symm hj)]; exact ea, t.mono st fun o e => .inl e, n, f⟩
  · by_cases hj : j = i
    · subst hj
      rw [List.getElem?_set_self hl] at ej
      rcases hs with ⟨x, rfl, _⟩ | ⟨f, rfl, e⟩
      · cases ej
      · cases ej
        rw [e]
        exact List.getElem?_set_self hlσ
    · rw [List.getElem?_set_ne (Ne.symm hj)] at ej ⊢
      exact E.fv j a ej
  · have hj : j ≠ i := fun z => by
      subst z
      rw [List.getElem?_set_self hl] at ej
      exact absurd (Option.some.inj ej) (nown m d)
    have hk : k ≠ i := fun z => by
      subst z
      rw [List.getElem?_set_self hl] at ek
      exact absurd (Option.some.inj ek) (nown n e)
    rw [List.getElem?_set_ne (Ne.symm hj)] at ej sj
    rw [List.getElem?_set_ne (Ne.symm hk)] at ek sk
    exact E.inj j k m n d e a ej ek sj sk
  · obtain ⟨j, m, d, ej, hm, sj⟩ := z
    have hj : j ≠ i := fun z => by
      subst z
      rw [List.getElem?_set_self hl] at ej
      exact absurd (Option.some.inj ej) (nown m d)
    rw [List.getElem?_set_ne (Ne.symm hj)] at ej sj
    exact .inl ⟨j, m, d, ej, hm, sj⟩
  · have hj : j ≠ i := fun z => by
      subst z
      exact (setOk_io hi).1 d ej
    exact ⟨d, by rw [List.getElem?_set_ne (Ne.symm hj)]; exact ej, List.getElem?_set_ne (Ne.symm hj)⟩
theorem set_new {i : Nat} {a : Addr} {d : D} {H₀ : Hp} {ρ₀ : VE} {σ₀ : L2.St} (E : EOk K (add A a) σ ρ H) (hi : setOk ρ[i]? = true) (t : Top K (Av (add A a) σ ρ) H a d) (nf : NoFrz H a) (na : ¬ Av A σ ρ a) (hn : H₀ a = none) (x : Ext σ₀ ρ₀ H₀ σ ρ H) :
    EOk K A (σ.set i (some (V.ref a))) (ρ.set i (some (Sl.own .ow d))) H ∧ Ext σ₀ ρ₀ H₀ (σ.set i (some (V.ref a))) (ρ.set i (some (Sl.own .ow d))) H := by
  have hl := setOk_lt hi
  have hlσ : i < σ.length := by rw [E.len]; exact hl
  have old : ∀ b, Own (σ.set i (some (V.ref a))) (ρ.set i (some (Sl.own .ow d))) b → b = a ∨ ∃ j m d, j ≠ i ∧ ρ[j]? = some (some (Sl.own m d)) ∧ σ[j]? = some (some (V.ref b)) := fun b ⟨j, m, d', e, s⟩ => by
    by_cases hj : j = i
    · subst hj
      rw [List.getElem?_set_self hlσ] at s
      cases s
      exact .inl rfl
    · rw [List.getElem?_set_ne (Ne.symm hj)] at e s
      exact .inr ⟨j, m, d', hj, e, s⟩
  have st : Stay (Av (add A a) σ ρ) H (Av A (σ.set i (some (V.ref a))) (ρ.set i (some (Sl.own .ow d)))) H := fun b o e n => ⟨fun z => n (by
    rcases z with z | z
    · exact .inl (.inl z)
    · rcases old b z with rfl | ⟨j, m, d', _, e, s⟩
      · exact .inl (.inr rfl)
      · exact .inr ⟨j, m, d', e, s⟩), .inl e⟩
  have ne : ∀ j m e, ρ[j]? = some (some (Sl.own m e)) → σ[j]? = some (some (V.ref a)) → False := fun j m e ej sj => na (.inr ⟨j, m, e, ej, sj⟩)
  refine ⟨⟨by simpa using E.len, fun b z => E.dom b (.inl z), fun j e ej => ?_, fun j m e ej => ?_, fun j b ej => ?_, fun j k m n e e' b ej ek sj sk => ?_⟩, ⟨x.keep, x.there, fun b z => ?_, fun b z => ?_, fun j e ej => ?_⟩⟩
  · by_cases hj : j = i
    · subst hj
      rw [List.getElem?_set_self hl] at ej
      cases ej
    · rw [List.getElem?_set_ne (Ne.symm hj)] at ej
      obtain ⟨w, ew, r⟩ := E.sh j e ej
      exact ⟨w, by rw [List.getElem?_set_ne (Ne.symm hj)]; exact ew, r.mono st⟩
  · by_cases hj : j = i
    · subst hj
      rw [List.getElem?_set_self hl] at ej
      cases ej
      exact ⟨a, List.getElem?_set_self hlσ, t.mono st fun o e => .inl e, fun z => na (.inl z), fun _ => nf⟩
    · rw [List.getElem?_set_ne (Ne.symm hj)] at ej
      obtain ⟨b, eb, t', n, f⟩ := E.own j m e ej
      exact ⟨b, by rw [List.getElem?_set_ne (Ne.symm hj)]; exact eb, t'.mono st fun o e => .inl e, fun z => n (.inl z), f⟩
  · by_cases hj : j = i
    · subst hj
      rw [List.getElem?_set_self hl] at ej
      cases ej
    · rw [List.getElem?_set_ne (Ne.symm hj)] at ej ⊢
      exact E.fv j b ej
  · by_cases hj : j = i
    · subst hj
      rw [List.getElem?_set_self hlσ] at sj
      cases sj
      by_cases hk : k = j
      · exact hk.symm
      · rw [List.getElem?_set_ne (Ne.symm hk)] at ek sk
        exact (ne k n e' ek sk).elim
    · rw [List.getElem?_set_ne (Ne.symm hj)] at ej sj
      by_cases hk : k = i
      · subst hk
        rw [List.getElem?_set_self hlσ] at sk
        cases sk
        exact (ne j m e ej sj).elim
      · rw [List.getElem?_set_ne (Ne.symm hk)] at ek sk
        exact E.inj j k m n e e' b ej ek sj sk
  · rcases old b z with rfl | ⟨j, m, d', _, e, s⟩
    · exact .inr hn
    · exact x.own b ⟨j, m, d', e, s⟩
  · obtain ⟨j, m, e, ej, hm, sj⟩ := z
    by_cases hj : j = i
    · subst hj
      rw [List.getElem?_set_self hlσ] at sj
      cases sj
      exact .inr hn
    · rw [List.getElem?_set_ne (Ne.symm hj)] at ej sj
      exact x.mown b ⟨j, m, e, ej, hm, sj⟩
  · obtain ⟨e', ej', sj⟩ := x.io j e ej
    have hj : j ≠ i := fun z => by
      subst z
      exact (setOk_io hi).1 e' ej'
    exact ⟨e', by rw [List.getElem?_set_ne (Ne.symm hj)]; exact ej', (List.getElem?_set_ne (Ne.symm hj)).trans sj⟩
end

inductive Fl where
  | nx | rt (d : D) | bk | ct
abbrev MS := VE → Option (VE × Fl)
def FlP (K : PySem.W.Frag) (A : AS) (ρ : VE) (D : Ends) (σ : L2.St) (H : Hp) : Fl → Prop
  | .nx => D.nx σ H
  | .rt d => ∀ v, Rp K (Av A σ ρ) H v d → D.rt v H
  | .bk => D.bk σ H
  | .ct => D.ct σ H
def SndS (K : PySem.W.Frag) (t : TS) (m : MS) : Prop := ∀ (A : AS) (σ : L2.St) (ρ : VE) (H : Hp) (ρ' : VE) (f : Fl) (D : Ends),
  EOk K A σ ρ H → m ρ = some (ρ', f) → (∀ σ' H', EOk K A σ' ρ' H' → Ext σ ρ H σ' ρ' H' → FlP K A ρ' D σ' H' f) → t D σ H
def SS {ι : Type} (C : Core) (Rs : ι → Rest) (st : Stmt) (m : MS) : Prop := ∃ t, (∀ i, PS (cx C (Rs i)) st t) ∧ SndS C.K t m
def SB {ι : Type} (C : Core) (Rs : ι → Rest) (st : List Stmt) (m : MS) : Prop := ∃ t, (∀ i, PSs (cx C (Rs i)) st t) ∧ SndS C.K t m

section
variable {ι : Type} {C : Core} {Rs : ι → Rest} {st : Stmt} {sts : List Stmt} {e c : Expr} {m m' : MS} {me : ME} {mt : MT} {pos : Pos}
def mNx : MS := fun ρ => some (ρ, .nx)
def mSeq (m m' : MS) : MS := fun ρ => match m ρ with
  | some (ρ1, .nx) => m' ρ1
  | r => r
theorem mSeq_cases {m m' : MS} {ρ ρ' : VE} {f : Fl} (h : mSeq m m' ρ = some (ρ', f)) : (∃ ρ1, m ρ = some (ρ1, .nx) ∧ m' ρ1 = some (ρ', f)) ∨ (m ρ = some (ρ', f) ∧ f ≠ .nx) := by
  unfold mSeq at h
  split at h
  · rename_i ρ1 e
    exact .inl ⟨ρ1, e, h⟩
  · rename_i r hr
    refine .inr ⟨h, fun z => ?_⟩
    subst z
    exact hr ρ' h
theorem sb_nil : SB C Rs [] mNx := ⟨_, fun _ => pss_nil, fun A σ ρ H ρ' f D E e q => by
  cases e
  exact q σ H E .refl⟩
theorem sb_one (h : SS C Rs st m) : SB C Rs [st] m := let ⟨t, p, s⟩ := h; ⟨t, fun i => pss_one (p i), s⟩
theorem FlP.other {K : PySem.W.Frag} {A : AS} {ρ : VE} {D : Ends} {n : L2.St → Hp → Prop} {σ : L2.St} {H : Hp} {f : Fl} (hf : f ≠ .nx) (h : FlP K A ρ D σ H f) : FlP K A ρ { D with nx := n } σ H f := by
  cases f with
  | nx => exact absurd rfl hf
  | rt d => exact h
  | bk => exact h
  | ct => exact h
theorem sb_cons (h : SS C Rs st m) (h' : SB C Rs sts m') : SB C Rs (st :: sts) (mSeq m m') := by
  obtain ⟨t, p, s⟩ := h
  obtain ⟨t', p', s'⟩ := h'
  refine ⟨_, fun i => pss_cons (p i) (p' i), fun A σ ρ H ρ' f D E e q => ?_⟩
  rcases mSeq_cases e with ⟨ρ1, e1, e2⟩ | ⟨e1, hf⟩
  · refine s A σ ρ H ρ1 .nx _ E e1 fun σ1 H1 E1 x1 => ?_
    exact s' A σ1 ρ1 H1 ρ' f D E1 e2 fun σ2 H2 E2 x2 => q σ2 H2 E2 (x1.trans x2)
  · exact s A σ ρ H ρ' f _ E e1 fun σ1 H1 E1 x1 => (q σ1 H1 E1 x1).other hf
theorem ss_pass : SS C Rs (.Pass pos) mNx := ⟨_, fun _ => ps_pass, fun A σ ρ H ρ' f D E e q => by
  cases e
  exact q σ H E .refl⟩
def mBk : MS := fun ρ => some (ρ, .bk)
def mCt : MS := fun ρ => some (ρ, .ct)
theorem ss_break : SS C Rs (.Break pos) mBk := ⟨_, fun _ => ps_break, fun A σ ρ H ρ' f D E e q => by
  cases e
  exact q σ H E .refl⟩
theorem ss_continue : SS C Rs (.Continue pos) mCt := ⟨_, fun _ => ps_continue, fun A σ ρ H ρ' f D E e q => by
  cases e
  exact q σ H E .refl⟩
def mNev : MS := fun _ => none
theorem ss_never : SS C Rs st mNev := ⟨_, fun _ => ps_never, fun A σ ρ H ρ' f D E e q => by cases e⟩
def mDrop (me : ME) : MS := fun ρ => bnd (me ρ) fun _ ρ1 => some (ρ1, .nx)
theorem ss_expr (he : SE C Rs e me) (hs : ∀ i, swapsWith e none pos.line (Rs i).env = pure false := by intro _; rfl) : SS C Rs (.Expr e pos) (mDrop me) := by
  obtain ⟨t, p, s⟩ := he
  refine ⟨_, fun i => ps_expr (X := cx C (Rs i)) (p i) (hs i), fun A σ ρ H ρ' f D E e q => ?_⟩
  obtain ⟨r, ρ1, e1, e⟩ := bnd_some e
  cases e
  exact s.use E e1 fun x H1 x1 E1 b1 => q σ H1 E1 x1
def mRet (me : ME) : MS := fun ρ => bnd (me ρ) fun r ρ1 => bnd (frz ρ1 r) fun d ρ2 => some (ρ2, .rt d)
theorem ss_ret (he : SE C Rs e me) : SS C Rs (.Return (some e) pos) (mRet me) := by
  obtain ⟨t, p, s⟩ := he
  refine ⟨_, fun i => ps_ret (p i), fun A σ ρ H ρ' f D E e q => ?_⟩
  obtain ⟨r, ρ1, e1, e⟩ := bnd_some e
  obtain ⟨d, ρ2, e2, e⟩ := bnd_some e
  cases e
  refine s.use E e1 fun x H1 x1 E1 b1 => ?_
  obtain ⟨E2, x2, r2⟩ := frz_ok b1 E1 e2
  exact q σ H1 E2 (x1.trans x2) x r2
def mRetN : MS := fun ρ => some (ρ, .rt .none)
theorem ss_retN : SS C Rs (.Return none pos) mRetN := ⟨_, fun _ => ps_retN, fun A σ ρ H ρ' f D E e q => by
  cases e
  exact q σ H E .refl _ .non⟩
def mIfS (mt : MT) (m m' : MS) : MS := fun ρ => bnd (mt ρ) fun b ρ1 => if b then m ρ1 else m' ρ1
theorem ss_if {a b : List Stmt} (hc : ST C Rs c mt) (ha : SB C Rs a m) (hb : SB C Rs b m') : SS C Rs (.If c a b pos) (mIfS mt m m') := by
  obtain ⟨tc, pc, sc⟩ := hc
  obtain ⟨ta, pa, sa⟩ := ha
  obtain ⟨tb, pb, sb⟩ := hb
  refine ⟨_, fun i => ps_if (pc i) (pa i) (pb i), fun A σ ρ H ρ' f D E e q => ?_⟩
  obtain ⟨b, ρ1, e1, e⟩ := bnd_some e
  refine sc A σ ρ H b ρ1 _ E e1 fun H1 x1 E1 => ?_
  cases b with
  | true =>
    rw [if_pos rfl]
    exact sa A σ ρ1 H1 ρ' f D E1 e fun σ2 H2 E2 x2 => q σ2 H2 E2 (x1.trans x2)
  | false =>
    rw [if_neg Bool.false_ne_true]
    exact sb A σ ρ1 H1 ρ' f D E1 e fun σ2 H2 E2 x2 => q σ2 H2 E2 (x1.trans x2)

abbrev MG := D → VE → Option VE
def SndG (K : PySem.W.Frag) (g : TG) (m : MG) (is : List Nat) : Prop := ∀ (A : AS) (σ : L2.St) (ρ : VE) (H : Hp) (v : V) (d : D) (ρ' : VE) (Q : L2.St → Hp → Prop),
  EOk K A σ ρ H → Rp K (Av A σ ρ) H v d → m d ρ = some ρ' → (∀ σ' H', EOk K A σ' ρ' H' → Ext σ ρ H σ' ρ' H' → (∀ vs, (∀ i ∈ is, i ∈ vs) → wipe σ' vs = wipe σ vs) → Q σ' H') → g v σ H Q
def SG {ι : Type} (C : Core) (Rs : ι → Rest) (e : Expr) (m : MG) (is : List Nat) : Prop := ∃ g, (∀ i, PG (cx C (Rs i)) e g) ∧ SndG C.K g m is
theorem wipe_set {σ : L2.St} {i : Nat} {x : Option V} : ∀ {vs : List Nat}, i ∈ vs → wipe (σ.set i x) vs = wipe σ vs
  | [], h => by cases h
  | v :: vs, h => by
    unfold wipe
    by_cases hv : i ∈ vs
    · rw [wipe_set hv]
    · have e : v = i := by
        rcases List.mem_cons.mp h with h | h
        · exact h.symm
        · exact absurd h hv
      subst e
      clear h
      have gen : ∀ ws : List Nat, v ∉ ws → wipe (σ.set v x) ws = (wipe σ ws).set v x := by
        intro ws
        induction ws with
        | nil => intro _; rfl
        | cons w ws ih =>
          intro hw
          unfold wipe
          rw [ih fun z => hw (List.mem_cons_of_mem _ z), List.set_comm _ _ (fun z => hw (by rw [z]; exact List.mem_cons_self))]
      rw [gen vs hv, List.set_set]
def gN (i : Nat) : MG := fun d ρ => if setOk ρ[i]? then some (ρ.set i (some (Sl.sh d))) else none
theorem snd_gname {K : PySem.W.Frag} {i : Nat} : SndG K (gName i) (gN i) [i] := by
  intro A σ ρ H v d ρ' Q E r e q
  unfold gN at e
  split at e
  · rename_i h
    cases e
    obtain ⟨E1, x1⟩ := set_sh E h (.inl ⟨d, rfl, r⟩)
    exact q _ _ E1 x1 fun vs hv => wipe_set (hv i List.mem_cons_self)
  · cases e
theorem sg_name (i : Nat) {x : PySem.Str} (hN : C.N.Nodup) (hi : C.N[i]? = some x := by rfl) (hx : ∀ j, Loc (Rs j).env.scope x := by intro _; first | exact Or.inl rfl | exact Or.inr rfl)
    (hf : ∀ j, (Rs j).fn x = true ∨ (Rs j).env.scope.names.lookup x = some .local := by intro _; first | exact Or.inl rfl | exact Or.inr rfl) : SG C Rs (.Name x pos) (gN i) [i] :=
  ⟨_, fun j => pg_name (X := cx C (Rs j)) hN hi (hx j) (hf j), snd_gname⟩
abbrev MGs := List D → VE → Option VE
def SndGs (K : PySem.W.Frag) (g : TGs) (m : MGs) (is : List Nat) : Prop := ∀ (A : AS) (σ : L2.St) (ρ : VE) (H : Hp) (vs : List V) (ds : List D) (ρ' : VE) (Q : L2.St → Hp → Prop),
  EOk K A σ ρ H → RpA K (Av A σ ρ) H vs ds → m ds ρ = some ρ' → (∀ σ' H', EOk K A σ' ρ' H' → Ext σ ρ H σ' ρ' H' → (∀ vs, (∀ i ∈ is, i ∈ vs) → wipe σ' vs = wipe σ vs) → Q σ' H') → g vs σ H Q
def SGs {ι : Type} (C : Core) (Rs : ι → Rest) (es : List Expr) (m : MGs) (is : List Nat) : Prop := ∃ g, (∀ i, PGs (cx C (Rs i)) es g) ∧ SndGs C.K g m is
def gsN : MGs := fun ds ρ => match ds with
  | [] => some ρ
  | _ => none
def gsC (g : MG) (gs : MGs) : MGs := fun ds ρ => match ds with
  | [] => none
  | d :: ds => obd (g d ρ) fun ρ1 => gs ds ρ1
theorem sgs_nil : SGs C Rs [] gsN [] := ⟨_, fun _ => pgs_nil, fun A σ ρ H vs ds ρ' Q E r e q => by
  cases r with
  | nil => cases e; exact ⟨rfl, q σ H E .refl fun _ _ => rfl⟩
  | cons _ _ => cases e⟩
theorem sgs_cons {es : List Expr} {g : MG} {gs : MGs} {is js : List Nat} (h : SG C Rs e g is) (h' : SGs C Rs es gs js) (hs : ∀ i, (assignEach (e :: es) (Rs i).env).map (·.2) = assign e (Rs i).env :: (assignEach es (Rs i).env).map (·.2) := by intro _; rfl) : SGs C Rs (e :: es) (gsC g gs) (is ++ js) := by
  obtain ⟨t, p, s⟩ := h
  obtain ⟨t', p', s'⟩ := h'
  refine ⟨_, fun i => pgs_cons (X := cx C (Rs i)) (p i) (p' i) (hs i), fun A σ ρ H vs ds ρ' Q E r e q => ?_⟩
  cases r with
  | nil => cases e
  | cons r rs =>
    obtain ⟨ρ1, e1, e2⟩ := obd_some e
    refine ⟨_, _, rfl, s A σ ρ H _ _ ρ1 _ E r e1 fun σ1 H1 E1 x1 w1 => ?_⟩
    exact s' A σ1 ρ1 H1 _ _ ρ' Q E1 (x1.rpA rs) e2 fun σ2 H2 E2 x2 w2 => q σ2 H2 E2 (x1.trans x2) fun vs hv => (w2 vs fun i hi => hv i (List.mem_append_right _ hi)).trans (w1 vs fun i hi => hv i (List.mem_append_left _ hi))
def gT (n : Nat) (gs : MGs) : MG := fun d ρ => match d with
  | .tuple ds => if ds.length == n then gs ds ρ else none
  | _ => none
theorem sg_tup {es : List Expr} {k n : Nat} {gs : MGs} {is : List Nat} (h : SGs C Rs es gs is) (hn : ∀ i, (assignEach es (Rs i).env).length = n := by intro _; rfl) (hst : ∀ i, (assignEach es (Rs i).env).findIdx? (·.1) = none := by intro _; rfl) : SG C Rs (.Tuple es k pos) (gT n gs) is := by
  obtain ⟨t, p, s⟩ := h
  refine ⟨gTup C.K n t, fun i => pg_tup (X := cx C (Rs i)) rfl (p i) (hn i) (hst i), fun A σ ρ H v d ρ' Q E r e q => ?_⟩
  cases d with
  | tuple ds =>
    replace e : (if ds.length == n then gs ds ρ else none) = some ρ' := e
    split at e
    · rename_i hl
      have hl' : ds.length = n := by simpa using hl
      obtain ⟨a, xs, rfl, h1, r1, _⟩ := Pk.tuple (.inl r)
      exact ⟨a, xs, rfl, h1, by rw [r1.length]; exact hl', s A σ ρ H xs ds ρ' Q E r1 e q⟩
    · cases e
  | none => cases e
  | bool b => cases e
  | int i => cases e
  | str x => cases e
  | list xs => cases e
  | dict kvs => cases e
def mAsg (me : ME) (g : MG) : MS := fun ρ => bnd (me ρ) fun r ρ1 => bnd (frz ρ1 r) fun d ρ2 => obd (g d ρ2) fun ρ3 => some (ρ3, .nx)
theorem ss_asg {tg : Expr} {g : MG} {is : List Nat} (he : SE C Rs e me) (hg : SG C Rs tg g is) (hs : ∀ i, swapsWithSole [tg] e pos.line (Rs i).env = pure false := by intro _; rfl) (hw : ∀ i, swappedStores [tg] e (Rs i).env = pure none := by intro _; rfl)
    (h1 : ∀ i, (assignEach [tg] (Rs i).env).map (·.2) = [assign tg (Rs i).env] := by intro _; rfl) : SS C Rs (.Assign [tg] e pos) (mAsg me g) := by
  obtain ⟨t, p, s⟩ := he
  obtain ⟨t', p', s'⟩ := hg
  refine ⟨_, fun i => ps_asg (X := cx C (Rs i)) (p i) (p' i) (hs i) (hw i) (h1 i), fun A σ ρ H ρ' f D E e q => ?_⟩
  obtain ⟨r, ρ1, e1, e⟩ := bnd_some e
  obtain ⟨d, ρ2, e2, e⟩ := bnd_some e
  obtain ⟨ρ3, e3, e⟩ := obd_some e
  cases e
  refine s.use E e1 fun x H1 x1 E1 b1 => ?_
  obtain ⟨E2, x2, r2⟩ := frz_ok b1 E1 e2
  exact s' A σ ρ2 H1 x d _ _ E2 r2 e3 fun σ3 H3 E3 x3 _ => q σ3 H3 E3 ((x1.trans x2).trans x3)
def setR (i : Nat) (r : BV) (ρ : VE) : Option VE := match r with
  | .d x => if setOk ρ[i]? then some (ρ.set i (some (Sl.sh x))) else none
  | .new x => if setOk ρ[i]? then some (ρ.set i (some (Sl.own .ow x))) else none
  | .fn f => if setOk ρ[i]? then some (ρ.set i (some (Sl.fv f))) else none
  | .own j => bnd (frz ρ (.own j)) fun d ρ1 => if setOk ρ1[i]? then some (ρ1.set i (some (Sl.sh d))) else none
def mSet (i : Nat) (me : ME) : MS := fun ρ => bnd (me ρ) fun r ρ1 => obd (setR i r ρ1) fun ρ2 => some (ρ2, .nx)
theorem set_res {K : PySem.W.Frag} {A : AS} {σ σ₀ : L2.St} {ρ ρ1 ρ2 : VE} {H H1 : Hp} {v : V} {r : BV} {i : Nat} (x : Ext σ₀ ρ H σ ρ1 H1) (h : Res K A σ ρ1 H H1 v r) (e : setR i r ρ1 = some ρ2) :
    EOk K A (σ.set i (some v)) ρ2 H1 ∧ Ext σ₀ ρ H (σ.set i (some v)) ρ2 H1 := by
  unfold setR at e
  cases r with
  | d y =>
    dsimp only at e
    split at e
    · rename_i hk
      cases e
      obtain ⟨E2, x2⟩ := set_sh h.1 hk (.inl ⟨y, rfl, h.2⟩)
      exact ⟨E2, x.trans x2⟩
    · cases e
  | new y =>
    dsimp only at e
    split at e
    · rename_i hk
      cases e
      obtain ⟨a, rfl, hn, E1, t, nf, na⟩ := h
      exact set_new E1 hk t nf na hn x
    · cases e
  | fn f =>
    dsimp only at e
    split at e
    · rename_i hk
      cases e
      obtain ⟨E1, rfl⟩ := h
      obtain ⟨E2, x2⟩ := set_sh E1 hk (.inr ⟨f, rfl, rfl⟩)
      exact ⟨E2, x.trans x2⟩
    · cases e
  | own j =>
    dsimp only at e
    obtain ⟨d, ρ3, e3, e⟩ := bnd_some e
    split at e
    · rename_i hk
      cases e
      obtain ⟨E3, x3, r3⟩ := frz_ok (r := .own j) h.2 h.1 e3
      obtain ⟨E2, x2⟩ := set_sh E3 hk (.inl ⟨d, rfl, r3⟩)
      exact ⟨E2, (x.trans x3).trans x2⟩
    · cases e
theorem ss_set (i : Nat) {x : PySem.Str} {pos' : Pos} (he : SE C Rs e me) (hN : C.N.Nodup) (hi : C.N[i]? = some x := by rfl) (hx : ∀ j, Loc (Rs j).env.scope x := by intro _; first | exact Or.inl rfl | exact Or.inr rfl)
    (hs : ∀ j, swapsWith e (some (.Name x pos')) pos.line (Rs j).env = pure false := by intro _; rfl) (hf : ∀ j, (Rs j).fn x = true ∨ (Rs j).env.scope.names.lookup x = some .local := by intro _; first | exact Or.inl rfl | exact Or.inr rfl) :
    SS C Rs (.Assign [.Name x pos'] e pos) (mSet i me) := by
  obtain ⟨t, p, s⟩ := he
  refine ⟨_, fun j => ps_set (X := cx C (Rs j)) hN hi (hx j) (p j) (hs j) (hf j), fun A σ ρ H ρ' f D E e q => ?_⟩
  obtain ⟨r, ρ1, e1, e⟩ := bnd_some e
  obtain ⟨ρ2, e2, e⟩ := obd_some e
  cases e
  refine s A σ ρ H r ρ1 _ E e1 fun v H1 x1 rs => ?_
  obtain ⟨E2, x2⟩ := set_res x1 rs e2
  exact q _ _ E2 x2
def mAug (i : Nat) (f : D → D → Option BV) (me : ME) : MS := fun ρ => bnd (mVar i ρ) fun r0 ρ0 => bnd (me ρ0) fun r ρ1 => obd (peek ρ1 r0) fun d => obd (peek ρ1 r) fun e => obd (f d e) fun b => obd (setR i b ρ1) fun ρ2 => some (ρ2, .nx)
theorem ss_aug (i : Nat) {x : PySem.Str} {op : Operator} {r : R2} {f : D → D → Option BV} {pos' : Pos} (he : SE C Rs e me) (ho : ∀ j, OpR (cx C (Rs j)) (inplaceOp op) r) (hr : OpV C.K r f) (hN : C.N.Nodup) (hi : C.N[i]? = some x := by rfl)
    (hx : ∀ j, Loc (Rs j).env.scope x := by intro _; first | exact Or.inl rfl | exact Or.inr rfl) (hf : ∀ j, (Rs j).fn x = true ∨ (Rs j).env.scope.names.lookup x = some .local := by intro _; first | exact Or.inl rfl | exact Or.inr rfl) :
    SS C Rs (.AugAssign (.Name x pos') op e pos) (mAug i f me) := by
  obtain ⟨t, p, s⟩ := he
  refine ⟨tAug i t r, fun j => ps_aug (X := cx C (Rs j)) hN hi (hx j) (p j) (fun pins s σ H x y v u Q I r1 r2 h => ho j pins s σ H x y v u Q I r1 r2 h) (hf j), fun A σ ρ H ρ' f' D E e q => ?_⟩
  obtain ⟨r0, ρ0, e0, e⟩ := bnd_some e
  obtain ⟨r1, ρ1, e1, e⟩ := bnd_some e
  obtain ⟨d, p0, e⟩ := obd_some e
  obtain ⟨d1, p1, e⟩ := obd_some e
  obtain ⟨b, eb, e⟩ := obd_some e
  obtain ⟨ρ2, e2, e⟩ := obd_some e
  cases e
  have hv : ∃ v, σ[i]? = some (some v) ∧ ρ0 = ρ ∧ BR C.K A σ ρ H v r0 := by
    replace e0 : varS i ρ ρ[i]? = some (r0, ρ0) := e0
    cases z : ρ[i]? with
    | none => rw [z] at e0; cases e0
    | some o =>
      rw [z] at e0
      cases o with
      | none => cases e0
      | some sl =>
        cases sl with
        | sh x =>
          cases e0
          obtain ⟨v, ev, rp⟩ := E.sh i x z
          exact ⟨v, ev, rfl, rp⟩
        | own m x =>
          cases e0
          obtain ⟨a, ea, _⟩ := E.own i m x z
          exact ⟨_, ea, rfl, ea⟩
        | fv a =>
          cases e0
          exact ⟨_, E.fv i a z, rfl, rfl⟩
  obtain ⟨v, ev, rfl, b0⟩ := hv
  refine ⟨v, ev, s.use E e1 fun y H1 x1 E1 b1 => ?_⟩
  refine hr _ H1 v y d d1 b _ (fun b => E1.there) ((b0.keep x1).peek E1 p0) (b1.peek E1 p1) eb fun z H2 g vr => ?_
  obtain ⟨x2, rs⟩ := vr.lift (H₀ := H) E1 g (res_start x1)
  obtain ⟨E3, x3⟩ := set_res (x1.trans x2) rs e2
  exact q _ _ E3 x3
theorem ss_augAdd (i : Nat) {x : PySem.Str} {pos' : Pos} (he : SE C Rs e me) (hN : C.N.Nodup) (hi : C.N[i]? = some x := by rfl)
    (hx : ∀ j, Loc (Rs j).env.scope x := by intro _; first | exact Or.inl rfl | exact Or.inr rfl) (hf : ∀ j, (Rs j).fn x = true ∨ (Rs j).env.scope.names.lookup x = some .local := by intro _; first | exact Or.inl rfl | exact Or.inr rfl) :
    SS C Rs (.AugAssign (.Name x pos') .Add e pos) (mAug i iAdd me) := ss_aug i he (fun _ => iop_add) ov_add hN hi hx hf
theorem ss_augSub (i : Nat) {x : PySem.Str} {pos' : Pos} (he : SE C Rs e me) (hN : C.N.Nodup) (hi : C.N[i]? = some x := by rfl)
    (hx : ∀ j, Loc (Rs j).env.scope x := by intro _; first | exact Or.inl rfl | exact Or.inr rfl) (hf : ∀ j, (Rs j).fn x = true ∨ (Rs j).env.scope.names.lookup x = some .local := by intro _; first | exact Or.inl rfl | exact Or.inr rfl) :
    SS C Rs (.AugAssign (.Name x pos') .Sub e pos) (mAug i iSub me) := ss_aug i he (fun _ => iop_sub) ov_sub hN hi hx hf

def whileL (mt : MT) (m : MS) : Nat → VE → Option (VE × Fl)
  | 0, _ => none
  | n + 1, ρ => bnd (mt ρ) fun b ρ1 => if b then (match m ρ1 with
      | some (ρ2, .nx) => whileL mt m n ρ2
      | some (ρ2, .ct) => whileL mt m n ρ2
      | some (ρ2, .bk) => some (ρ2, .nx)
      | r => r) else some (ρ1, .nx)
def mWhile (n : Nat) (mt : MT) (m : MS) : MS := whileL mt m n
theorem ss_while (n : Nat) {body : List Stmt} (hp : ∀ i, PassesOwn (model C.prog C.w) C.A (Rs i).env (Rs i).xe) (hc : ST C Rs c mt) (hb : SB C Rs body m) : SS C Rs (.While c body [] pos) (mWhile n mt m) := by
  obtain ⟨tc, pc, sc⟩ := hc
  obtain ⟨tb, pb, sb⟩ := hb
  refine ⟨_, fun i => ps_while (X := cx C (Rs i)) (hp i) (pc i) (pb i), fun A σ ρ H ρ' f D E e q => ?_⟩
  refine ⟨fun k σ1 H1 => ∃ ρ1, EOk C.K A σ1 ρ1 H1 ∧ Ext σ ρ H σ1 ρ1 H1 ∧ whileL mt m k ρ1 = some (ρ', f), ⟨n, ρ, E, .refl, e⟩, ?_⟩
  rintro k σ1 H1 ⟨ρ1, E1, x1, e1⟩
  cases k with
  | zero => cases e1
  | succ k =>
    obtain ⟨b, ρ2, e2, e3⟩ := bnd_some e1
    refine sc A σ1 ρ1 H1 b ρ2 _ E1 e2 fun H2 x2 E2 => ?_
    cases b with
    | false =>
      rw [if_neg Bool.false_ne_true] at e3 ⊢
      cases e3
      exact q σ1 H2 E2 (x1.trans x2)
    | true =>
      rw [if_pos rfl] at e3 ⊢
      refine ⟨fun σ3 H3 => ∃ ρ3, EOk C.K A σ3 ρ3 H3 ∧ Ext σ ρ H σ3 ρ3 H3 ∧ whileL mt m k ρ3 = some (ρ', f), fun σ3 H3 h => ⟨k, Nat.lt_succ_self k, h⟩, ?_⟩
      cases em : m ρ2 with
      | none => rw [em] at e3; cases e3
      | some p =>
        obtain ⟨ρ3, fl⟩ := p
        rw [em] at e3
        refine sb A σ1 ρ2 H2 ρ3 fl _ E2 em fun σ3 H3 E3 x3 => ?_
        have x13 := (x1.trans x2).trans x3
        cases fl with
        | nx => exact ⟨ρ3, E3, x13, e3⟩
        | ct => exact ⟨ρ3, E3, x13, e3⟩
        | bk =>
          cases e3
          exact q σ3 H3 E3 x13
        | rt d =>
          cases e3
          exact q σ3 H3 E3 x13

def ItOk (K : PySem.W.Frag) (O₀ : AS) (H₀ : Hp) (J : It) (ds : List D) : Prop := ∀ (O : AS) (H : Hp), (∀ b, O b → ∃ o, H b = some o) → (∀ b o, H₀ b = some o → ¬ O₀ b → ¬ O b ∧ H b = some o) →
  ∀ i, (∀ d, ds[i]? = some d → J.go i H ∧ ∀ x H2, J.yld i H x H2 → Gr H H2 ∧ Rp K O H2 x d) ∧ (ds.length ≤ i → J.stop i H)
abbrev MI := VE → Option (List D × VE)
def SndI (K : PySem.W.Frag) (wi : TI) (m : MI) : Prop := ∀ (A : AS) (σ : L2.St) (ρ : VE) (H : Hp) (ds : List D) (ρ' : VE) (R : It → Hp → Prop),
  EOk K A σ ρ H → m ρ = some (ds, ρ') → (∀ J H', Ext σ ρ H σ ρ' H' → EOk K A σ ρ' H' → ItOk K (Av A σ ρ') H' J ds → R J H') → wi σ H R
def SI {ι : Type} (C : Core) (Rs : ι → Rest) (tg it : Expr) (m : MI) : Prop := ∃ wi, (∀ i, PI (cx C (Rs i)) tg it wi) ∧ SndI C.K wi m
def forL (g : MG) (m : MS) : List D → VE → Option (VE × Fl)
  | [], ρ => some (ρ, .nx)
  | d :: ds, ρ => obd (g d ρ) fun ρ1 => match m ρ1 with
      | some (ρ2, .nx) => forL g m ds ρ2
      | some (ρ2, .ct) => forL g m ds ρ2
      | some (ρ2, .bk) => some (ρ2, .nx)
      | r => r
def mFor (mi : MI) (g : MG) (m : MS) : MS := fun ρ => bnd (mi ρ) fun ds ρ1 => forL g m ds ρ1
theorem Ext.it {σ σ' : L2.St} {ρ ρ' : VE} {H H' : Hp} {A : AS} (x : Ext σ ρ H σ' ρ' H') : ∀ b o, H b = some o → ¬ Av A σ ρ b → ¬ Av A σ' ρ' b ∧ H' b = some o := fun b o e n =>
  ⟨(x.stay b o e n).1, x.keep b o e fun z => n (.inr z.own)⟩
theorem ss_for {tg it : Expr} {mi : MI} {g : MG} {is : List Nat} {body : List Stmt} (hp : ∀ i, PassesOwn (model C.prog C.w) C.A (Rs i).env (Rs i).xe) (hi : SI C Rs tg it mi) (hg : SG C Rs tg g is) (hb : SB C Rs body m)
    (hs : ∀ i x, foldedSetIterable it (Rs i).env x = pure x := by intro _ _; rfl) : SS C Rs (.For tg it body [] pos) (mFor mi g m) := by
  obtain ⟨wi, pi, si⟩ := hi
  obtain ⟨tg', pg, sg⟩ := hg
  obtain ⟨tb, pb, sb⟩ := hb
  refine ⟨_, fun i => ps_for (X := cx C (Rs i)) (hp i) rfl (pi i) (pg i) (pb i) (hs i), fun A σ ρ H ρ' f D E e q => ?_⟩
  obtain ⟨ds, ρ0, e0, e⟩ := bnd_some e
  refine si A σ ρ H ds ρ0 _ E e0 fun J H0 x0 E0 it => ?_
  refine ⟨fun i k σ1 H1 => k = ds.length - i ∧ i ≤ ds.length ∧ ∃ ρ1, EOk C.K A σ1 ρ1 H1 ∧ Ext σ ρ0 H0 σ1 ρ1 H1 ∧ forL g m (ds.drop i) ρ1 = some (ρ', f), ⟨_, rfl, Nat.zero_le _, ρ0, E0, .refl, by rw [List.drop_zero]; exact e⟩, ?_⟩
  rintro i k σ1 H1 ⟨rfl, hi, ρ1, E1, x1, e1⟩
  obtain ⟨go, stop⟩ := it (Av A σ1 ρ1) H1 (fun b => E1.there) x1.it i
  by_cases hlt : i < ds.length
  · obtain ⟨d, hd⟩ : ∃ d, ds[i]? = some d := ⟨ds[i], List.getElem?_eq_getElem hlt⟩
    have hdr : ds.drop i = d :: ds.drop (i + 1) := by
      rw [List.drop_eq_getElem_cons hlt]
      rw [List.getElem?_eq_getElem hlt] at hd
      cases hd
      rfl
    rw [hdr] at e1
    obtain ⟨ρ2, e2, e3⟩ := obd_some e1
    obtain ⟨go, yl⟩ := go d hd
    refine .inr ⟨go, fun σ3 H3 => ∃ ρ3, EOk C.K A σ3 ρ3 H3 ∧ Ext σ ρ0 H0 σ3 ρ3 H3 ∧ forL g m (ds.drop (i + 1)) ρ3 = some (ρ', f), fun σ3 H3 h => ⟨ds.length - (i + 1), by omega, rfl, hlt, h⟩, fun x H2 hy => ?_⟩
    obtain ⟨gr, rx⟩ := yl x H2 hy
    have x12 : Ext σ1 ρ1 H1 σ1 ρ1 H2 := .grow gr
    refine sg A σ1 ρ1 H2 x d ρ2 _ (E1.grow gr fun b z => .inl z) rx e2 fun σ2 H3 E2 x2 _ => ?_
    cases em : m ρ2 with
    | none => rw [em] at e3; cases e3
    | some p =>
      obtain ⟨ρ3, fl⟩ := p
      rw [em] at e3
      refine sb A σ2 ρ2 H3 ρ3 fl _ E2 em fun σ3 H4 E3 x3 => ?_
      have x13 := ((x1.trans x12).trans x2).trans x3
      cases fl with
      | nx => exact ⟨ρ3, E3, x13, e3⟩
      | ct => exact ⟨ρ3, E3, x13, e3⟩
      | bk =>
        cases e3
        exact q σ3 H4 E3 (x0.trans x13)
      | rt d =>
        cases e3
        exact q σ3 H4 E3 (x0.trans x13)
  · have hl : ds.length ≤ i := by omega
    rw [List.drop_eq_nil_of_le hl] at e1
    cases e1
    exact .inl ⟨stop hl, q σ1 H1 E1 (x0.trans x1)⟩
def itD : D → Option (List D)
  | .list ds => some ds
  | .tuple ds => some ds
  | _ => none
def iSeq (me : ME) : MI := fun ρ => bnd (me ρ) fun r ρ1 => bnd (frz ρ1 r) fun d ρ2 => obd (itD d) fun ds => some (ds, ρ2)
theorem it_list {K : PySem.W.Frag} {O₀ : AS} {H₀ : Hp} {a : Addr} {xs : List V} {ds : List D} (h : H₀ a = some (.lst xs)) (n : ¬ O₀ a) (r : RpA K O₀ H₀ xs ds) : ItOk K O₀ H₀ (Itl K a) ds := by
  intro O H hO hs i
  have st : Stay O₀ H₀ O H := fun b o e n => ⟨(hs b o e n).1, .inl (hs b o e n).2⟩
  have hq : SqL K H a xs := SqL.of (hs a _ h n).2
  refine ⟨fun d hd => ?_, fun hl => ⟨xs, hq, by rw [r.length]; exact hl⟩⟩
  obtain ⟨v, hv, rv⟩ := r.get hd
  refine ⟨⟨xs, v, hq, hv⟩, fun x H2 hy => ?_⟩
  obtain ⟨rfl, hy⟩ := hy
  have e := hy xs hq
  rw [hv] at e
  cases e
  exact ⟨.refl, rv.mono st⟩
theorem it_tup {K : PySem.W.Frag} {O₀ : AS} {H₀ : Hp} {a : Addr} {xs : List V} {ds : List D} (hq : ∀ (O : AS) (H : Hp), (∀ b o, H₀ b = some o → ¬ O₀ b → ¬ O b ∧ H b = some o) → SqT K H a xs) (r : RpA K O₀ H₀ xs ds) : ItOk K O₀ H₀ (Itt K a) ds := by
  intro O H hO hs i
  have st : Stay O₀ H₀ O H := fun b o e n => ⟨(hs b o e n).1, .inl (hs b o e n).2⟩
  have hq := hq O H hs
  refine ⟨fun d hd => ?_, fun hl => ⟨xs, hq, by rw [r.length]; exact hl⟩⟩
  obtain ⟨v, hv, rv⟩ := r.get hd
  refine ⟨⟨xs, v, hq, hv⟩, fun x H2 hy => ?_⟩
  obtain ⟨rfl, hy⟩ := hy
  have e := hy xs hq
  rw [hv] at e
  cases e
  exact ⟨.refl, rv.mono st⟩
theorem pi_or {X : Cx} {tg it : Expr} {w w' : TI} (h : PI X tg it w) (h' : PI X tg it w') : PI X tg it (fun σ H R => w σ H R ∨ w' σ H R) := ⟨fun pins s σ H R I q => q.elim (h.run pins s σ H R I) (h'.run pins s σ H R I)⟩
theorem SI_seq {tg : Expr} (he : SE C Rs e me) : SI C Rs tg e (iSeq me) := by
  obtain ⟨t, p, s⟩ := he
  refine ⟨fun σ H R => iList C.K t σ H R ∨ iTup C.K t σ H R, fun i => pi_or (pi_list (X := cx C (Rs i)) (p i)) (pi_tup (X := cx C (Rs i)) (p i)), fun A σ ρ H ds ρ' R E e q => ?_⟩
  obtain ⟨r, ρ1, e1, e⟩ := bnd_some e
  obtain ⟨d, ρ2, e2, e⟩ := bnd_some e
  obtain ⟨ds', e3, e⟩ := obd_some e
  cases e
  unfold itD at e3
  split at e3
  · cases e3
    refine .inl (s.use E e1 fun x H1 x1 E1 b1 => ?_)
    obtain ⟨E2, x2, r2⟩ := frz_ok b1 E1 e2
    cases r2 with
    | lst h n r => exact ⟨_, rfl, ⟨_, SqL.of h⟩, q _ H1 (x1.trans x2) E2 (it_list h n r)⟩
  · cases e3
    refine .inr (s.use E e1 fun x H1 x1 E1 b1 => ?_)
    obtain ⟨E2, x2, r2⟩ := frz_ok b1 E1 e2
    cases r2 with
    | tup h n r => exact ⟨_, rfl, ⟨_, SqT.of h⟩, q _ H1 (x1.trans x2) E2 (it_tup (fun O H hs => SqT.of (hs _ _ h n).2) r)⟩
    | tupK h r =>
      obtain ⟨o, its, n, hk⟩ := h
      exact ⟨_, rfl, ⟨_, .inr ⟨o, its, n, hk⟩⟩, q _ H1 (x1.trans x2) E2 (it_tup (fun O H hs => .inr ⟨o, its, n, hk⟩) r)⟩
  · cases e3
def rngD (lo : Int) (n : Nat) : List D := (List.range n).map fun i => .int (lo + (i : Nat))
theorem it_range {K : PySem.W.Frag} {O₀ : AS} {H₀ : Hp} (lo : Int) (n : Nat) : ItOk K O₀ H₀ (Itr lo n) (rngD lo n) := by
  intro O H hO hs i
  refine ⟨fun d hd => ?_, fun hl => by
    have h' : n ≤ i := by simpa [rngD] using hl
    exact h'⟩
  have hi : i < n := by
    have := (List.getElem?_eq_some_iff.mp hd).1
    simpa [rngD] using this
  refine ⟨hi, fun x H2 hy => ?_⟩
  obtain ⟨rfl, rfl⟩ := hy
  refine ⟨.refl, ?_⟩
  unfold rngD at hd
  rw [List.getElem?_map, List.getElem?_range hi] at hd
  cases hd
  exact .int _
def okR (i : Int) : Bool := Nat.ble i.natAbs 1000000000000
theorem okR_of {i : Int} (h : okR i = true) : -(2 ^ 62) ≤ i ∧ i < 2 ^ 62 := by
  have h' : i.natAbs ≤ 1000000000000 := Nat.le_of_ble_eq_true h
  have e : (2 : Int) ^ 62 = 4611686018427387904 := by decide
  rw [e]
  omega
def iR1 (ma : MA) : MI := fun ρ => bnd (ma ρ) fun rs ρ1 => obd (peekAll ρ1 rs) fun ds => match ds with
  | [.int j] => if okR j then some (rngD 0 j.toNat, ρ1) else none
  | _ => none
def iR2 (ma : MA) : MI := fun ρ => bnd (ma ρ) fun rs ρ1 => obd (peekAll ρ1 rs) fun ds => match ds with
  | [.int i, .int j] => if okR i && okR j then some (rngD i (j - i).toNat, ρ1) else none
  | _ => none
theorem SI_range1 {tg a : Expr} {ma : MA} {p : Pos} (hm : C.mg "range" = none) (ha : SA C Rs [a] ma) (hg : ∀ i, Gl (cx C (Rs i)) "range" := by intro _; rfl) (hs : ∀ i, starEach [a] (Rs i).env = [(false, eval a (Rs i).env)] := by intro _; rfl) :
    SI C Rs tg (.Call (.Name "range" p) [a] [] pos) (iR1 ma) := by
  obtain ⟨t, p, s⟩ := ha
  refine ⟨_, fun i => pi_range1 (X := cx C (Rs i)) (hg i) hm (p i) (hs i), fun A σ ρ H ds ρ' R E e q => ?_⟩
  obtain ⟨rs, ρ1, e1, e⟩ := bnd_some e
  obtain ⟨es, e2, e⟩ := obd_some e
  refine s A σ ρ H rs ρ1 _ E e1 fun vs H1 x1 E1 b1 => ?_
  have pk := b1.peek E1 e2
  split at e
  · split at e
    · rename_i j hj
      cases e
      cases pk with
      | cons p1 pr =>
        cases pr
        rw [p1.int]
        exact ⟨j, rfl, (okR_of hj).1, (okR_of hj).2, q _ H1 x1 E1 (it_range 0 _)⟩
    · cases e
  · cases e
theorem SI_range2 {tg a b : Expr} {ma : MA} {p : Pos} (hm : C.mg "range" = none) (ha : SA C Rs [a, b] ma) (hg : ∀ i, Gl (cx C (Rs i)) "range" := by intro _; rfl) (hs : ∀ i, starEach [a, b] (Rs i).env = [(false, eval a (Rs i).env), (false, eval b (Rs i).env)] := by intro _; rfl)
    (hs2 : ∀ i, starEach [b] (Rs i).env = [(false, eval b (Rs i).env)] := by intro _; rfl) : SI C Rs tg (.Call (.Name "range" p) [a, b] [] pos) (iR2 ma) := by
  obtain ⟨t, p, s⟩ := ha
  refine ⟨_, fun i => pi_range2 (X := cx C (Rs i)) (hg i) hm (p i) (hs i) (hs2 i), fun A σ ρ H ds ρ' R E e q => ?_⟩
  obtain ⟨rs, ρ1, e1, e⟩ := bnd_some e
  obtain ⟨es, e2, e⟩ := obd_some e
  refine s A σ ρ H rs ρ1 _ E e1 fun vs H1 x1 E1 b1 => ?_
  have pk := b1.peek E1 e2
  split at e
  · split at e
    · rename_i i j hj
      rw [Bool.and_eq_true] at hj
      cases e
      cases pk with
      | cons p1 pr =>
        cases pr with
        | cons p2 pr =>
          cases pr
          rw [p1.int, p2.int]
          exact ⟨i, j, rfl, ⟨(okR_of hj.1).1, (okR_of hj.1).2, (okR_of hj.2).1, (okR_of hj.2).2⟩, q _ H1 x1 E1 (it_range i _)⟩
    · cases e
  · cases e
end
end Nb

namespace Nb
open PySem PySem.Spec PyProof.Rows L2
section
variable {ι : Type} {C : Core} {Rs : ι → Rest} {a b c e : Expr} {es : List Expr} {ma mb mc m me : ME} {mas : MA} {pos : Pos}
def aNil : MA := fun ρ => some ([], ρ)
def aCons (m : ME) (ms : MA) : MA := fun ρ => bnd (m ρ) fun r ρ1 => bnd (ms ρ1) fun rs ρ2 => some (r :: rs, ρ2)
theorem sa_nil : SA C Rs [] aNil := ⟨_, fun _ => pa_nil, fun A σ ρ H rs ρ' Q E e q => by
  cases e
  exact q [] H .refl E .nil⟩
theorem sa_cons (he : SE C Rs e me) (hr : SA C Rs es mas) (hs : ∀ i, starEach (e :: es) (Rs i).env = (false, eval e (Rs i).env) :: starEach es (Rs i).env := by intro _; rfl) : SA C Rs (e :: es) (aCons me mas) := by
  obtain ⟨t, p, s⟩ := he
  obtain ⟨t', p', s'⟩ := hr
  refine ⟨_, fun i => pa_cons (X := cx C (Rs i)) (p i) (p' i) (hs i), fun A σ ρ H rs ρ' Q E e q => ?_⟩
  obtain ⟨r, ρ1, e1, e⟩ := bnd_some e
  obtain ⟨rs', ρ2, e2, e⟩ := bnd_some e
  cases e
  refine s.use E e1 fun x H1 x1 E1 b1 => ?_
  exact s' A σ ρ1 H1 rs' _ _ E1 e2 fun vs H2 x2 E2 b2 => q (x :: vs) H2 (x1.trans x2) E2 (.cons (b1.keep x2) b2)
def mTup (ms : MA) : ME := fun ρ => bnd (ms ρ) fun rs ρ1 => bnd (frzAll ρ1 rs) fun ds ρ2 => if szOk ds.length then some (.d (.tuple ds), ρ2) else none
def mLst (ms : MA) : ME := fun ρ => bnd (ms ρ) fun rs ρ1 => bnd (frzAll ρ1 rs) fun ds ρ2 => if szOk ds.length then some (.new (.list ds), ρ2) else none
theorem se_tup {x1 : Nat} (h : SA C Rs es mas) : SE C Rs (.Tuple es x1 pos) (mTup mas) := by
  obtain ⟨t, p, s⟩ := h
  refine ⟨_, fun i => pe_tup (p i), fun A σ ρ H r ρ' Q E e q => ?_⟩
  obtain ⟨rs, ρ1, e1, e⟩ := bnd_some e
  obtain ⟨ds, ρ2, e2, e⟩ := bnd_some e
  split at e
  · rename_i hz
    cases e
    refine s A σ ρ H rs ρ1 _ E e1 fun vs H1 x1 E1 b1 => ?_
    obtain ⟨E2, x2, r2⟩ := frzAll_ok b1 E1 e2
    refine ⟨by rw [r2.length]; exact szOk_le hz, fun l hl => ?_⟩
    have x12 := x1.trans x2
    obtain ⟨x3, rr⟩ := VRes.lift (H₀ := H) E2 (.upd hl) (vnew_tup hl (fun b => E2.there) r2) (res_start x12)
    exact q _ _ (x12.trans x3) rr
  · cases e
theorem se_lst (h : SA C Rs es mas) : SE C Rs (.List es pos) (mLst mas) := by
  obtain ⟨t, p, s⟩ := h
  refine ⟨_, fun i => pe_lst (p i), fun A σ ρ H r ρ' Q E e q => ?_⟩
  obtain ⟨rs, ρ1, e1, e⟩ := bnd_some e
  obtain ⟨ds, ρ2, e2, e⟩ := bnd_some e
  split at e
  · rename_i hz
    cases e
    refine s A σ ρ H rs ρ1 _ E e1 fun vs H1 x1 E1 b1 => ?_
    obtain ⟨E2, x2, r2⟩ := frzAll_ok b1 E1 e2
    refine ⟨by rw [r2.length]; exact szOk_le hz, fun l hl => ?_⟩
    have x12 := x1.trans x2
    obtain ⟨x3, rr⟩ := VRes.lift (H₀ := H) E2 (.upd hl) (vnew_lst hl r2) (res_start x12)
    exact q _ _ (x12.trans x3) rr
  · cases e

def CallV (K : PySem.W.Frag) (r : List V → Hp → VK → Prop) (f : List D → Option BV) : Prop := ∀ (O : AS) (H : Hp) (xs : List V) (ds : List D) (b : BV) (Q : VK),
  (∀ b, O b → ∃ o, H b = some o) → PkA K O H xs ds → f ds = some b → (∀ v H', Gr H H' → VRes K O H H' v b → Q v H') → r xs H Q
def mCall (f : List D → Option BV) (ms : MA) : ME := fun ρ => bnd (ms ρ) fun rs ρ1 => obd (peekAll ρ1 rs) fun ds => obd (f ds) fun b => some (b, ρ1)
theorem snd_call {K : PySem.W.Frag} {r : List V → Hp → VK → Prop} {f : List D → Option BV} {t : TA} (hv : CallV K r f) (s : SndA K t mas) : Snd K (tCB r t) (mCall f mas) := by
  intro A σ ρ H rr ρ' Q E e q
  obtain ⟨rs, ρ1, e1, e⟩ := bnd_some e
  obtain ⟨ds, e2, e⟩ := obd_some e
  obtain ⟨b, eb, e⟩ := obd_some e
  cases e
  refine s A σ ρ H rs _ _ E e1 fun vs H1 x1 E1 b1 => ?_
  refine hv _ H1 vs ds _ _ (fun b => E1.there) (b1.peek E1 e2) eb fun v H2 g vr => ?_
  obtain ⟨x2, rr⟩ := vr.lift (H₀ := H) E1 g (res_start x1)
  exact q v H2 (x1.trans x2) rr
theorem se_callB {x : PySem.Str} {p : Pos} {id : String} {r : List V → Hp → VK → Prop} {f : List D → Option BV} (hc : ∀ i, CallR (cx C (Rs i)) (.builtin id) r) (hf : CallV C.K r f) (hm : C.mg x = none) (ha : SA C Rs (e :: es) mas)
    (hv : bootBuiltins x = some (.builtin id) := by decide +kernel) (hg : ∀ i, Gl (cx C (Rs i)) x := by intro _; rfl) (hn : x ≠ "__name__" := by decide) (hdb : (x == ("__debug__" : PySem.Str)) = false := by decide)
    (he : ∀ i, starEach (e :: es) (Rs i).env = (false, eval e (Rs i).env) :: starEach es (Rs i).env := by intro _; rfl) (hpl : ∀ i, (backTo pos (starEach es (Rs i).env)).any (·.1) = false := by intro _; rfl) : SE C Rs (.Call (.Name x p) (e :: es) [] pos) (mCall f mas) := by
  obtain ⟨t, pa, s⟩ := ha
  exact ⟨_, fun i => pe_callB (X := cx C (Rs i)) (hc i) (hg i) hm hv (pa i) hn hdb (he i) (hpl i), snd_call hf s⟩
theorem se_callTy {x : PySem.Str} {p : Pos} {T : String} {r : List V → Hp → VK → Prop} {f : List D → Option BV} (hc : ∀ i, CallR (cx C (Rs i)) (.type T) r) (hf : CallV C.K r f) (hm : C.mg x = none) (ha : SA C Rs (e :: es) mas)
    (hv : bootBuiltins x = some (.type T) := by decide +kernel) (hg : ∀ i, Gl (cx C (Rs i)) x := by intro _; rfl) (hn : x ≠ "__name__" := by decide) (hdb : (x == ("__debug__" : PySem.Str)) = false := by decide)
    (he : ∀ i, starEach (e :: es) (Rs i).env = (false, eval e (Rs i).env) :: starEach es (Rs i).env := by intro _; rfl) (hpl : ∀ i, (backTo pos (starEach es (Rs i).env)).any (·.1) = false := by intro _; rfl) : SE C Rs (.Call (.Name x p) (e :: es) [] pos) (mCall f mas) := by
  obtain ⟨t, pa, s⟩ := ha
  exact ⟨_, fun i => pe_callTy (X := cx C (Rs i)) (hc i) (hg i) hm hv (pa i) hn hdb (he i) (hpl i), snd_call hf s⟩
theorem CallV.or {K : PySem.W.Frag} {r r' : List V → Hp → VK → Prop} {f f' : List D → Option BV} (h : CallV K r f) (h' : CallV K r' f') : CallV K (fun xs H Q => r xs H Q ∨ r' xs H Q) (fun ds => (f ds).or (f' ds)) := by
  intro O H xs ds b Q hO px ef q
  replace ef : (f ds).or (f' ds) = some b := ef
  cases z : f ds with
  | some b' =>
    rw [z] at ef
    cases ef
    exact .inl (h O H xs ds b Q hO px z q)
  | none =>
    rw [z] at ef
    exact .inr (h' O H xs ds b Q hO px ef q)
theorem CallV.imp {K : PySem.W.Frag} {r : List V → Hp → VK → Prop} {f f' : List D → Option BV} (h : CallV K r f) (i : ∀ ds b, f' ds = some b → f ds = some b) : CallV K r f' :=
  fun O H xs ds b Q hO px ef q => h O H xs ds b Q hO px (i ds b ef) q
section
variable {K : PySem.W.Frag} {O : AS} {H : Hp}
theorem PkA.one {xs : List V} {d : D} (h : PkA K O H xs [d]) : ∃ v, xs = [v] ∧ Pk K O H v d := by
  cases h with | cons p t => cases t; exact ⟨_, rfl, p⟩
theorem PkA.two {xs : List V} {d e : D} (h : PkA K O H xs [d, e]) : ∃ v w, xs = [v, w] ∧ Pk K O H v d ∧ Pk K O H w e := by
  cases h with | cons p t => cases t with | cons p' t => cases t; exact ⟨_, _, rfl, p, p'⟩
def lenD : List D → Option BV
  | [.list xs] => some (.d (.int xs.length))
  | [.tuple xs] => some (.d (.int xs.length))
  | [.str x] => if szOk x.length then some (.d (.int x.length)) else none
  | [.dict [(.list ds, .none)]] => some (.d (.int ds.length))
  | _ => none
theorem cv_len : CallV K (fun xs H Q => ∃ x n, xs = [x] ∧ LenV K x H n ∧ Q (.int n) H) lenD := by
  intro O H xs ds b Q hO px ef q
  unfold lenD at ef
  split at ef
  · cases ef
    obtain ⟨v, rfl, p⟩ := px.one
    obtain ⟨a, vs, rfl, h1, r⟩ := p.list
    exact ⟨_, vs.length, rfl, .inl ⟨vs, SqL.of h1, rfl⟩, by rw [r.length]; exact q _ _ .refl (.int _)⟩
  · cases ef
    obtain ⟨v, rfl, p⟩ := px.one
    obtain ⟨a, vs, rfl, h1, r, _⟩ := p.tuple
    exact ⟨_, vs.length, rfl, .inr ⟨vs, h1, rfl⟩, by rw [r.length]; exact q _ _ .refl (.int _)⟩
  · split at ef
    · rename_i hz
      cases ef
      obtain ⟨v, rfl, p⟩ := px.one
      rw [p.str]
      exact ⟨_, _, rfl, ⟨szOk_le hz, rfl⟩, q _ _ .refl (.int _)⟩
    · cases ef
  · cases ef
    obtain ⟨v, rfl, p⟩ := px.one
    obtain ⟨a, vs, rfl, h1, r⟩ := p.scr fun _ => kD_lst
    exact ⟨_, vs.length, rfl, .inl ⟨vs, h1, rfl⟩, by rw [r.length]; exact q _ _ .refl (.int _)⟩
  · cases ef
def absD : List D → Option BV
  | [.int i] => some (.d (.int (if i < 0 then -i else i)))
  | _ => none
theorem cv_abs : CallV K (fun xs H Q => ∃ i, xs = [.int i] ∧ Q (.int (if i < 0 then -i else i)) H) absD := by
  intro O H xs ds b Q hO px ef q
  unfold absD at ef
  split at ef
  · cases ef
    obtain ⟨v, rfl, p⟩ := px.one
    rw [p.int]
    exact ⟨_, rfl, q _ _ .refl (.int _)⟩
  · cases ef
def intD : List D → Option BV
  | [.int i] => some (.d (.int i))
  | [.bool k] => some (.d (.int (if k then 1 else 0)))
  | _ => none
theorem cv_int : CallV K (fun xs H Q => (∃ i, xs = [.int i] ∧ Q (.int i) H) ∨ ∃ k, xs = [.bl k] ∧ Q (.int (if k then 1 else 0)) H) intD := by
  intro O H xs ds b Q hO px ef q
  unfold intD at ef
  split at ef
  · cases ef
    obtain ⟨v, rfl, p⟩ := px.one
    rw [p.int]
    exact .inl ⟨_, rfl, q _ _ .refl (.int _)⟩
  · cases ef
    obtain ⟨v, rfl, p⟩ := px.one
    rw [p.bool]
    exact .inr ⟨_, rfl, q _ _ .refl (.int _)⟩
  · cases ef
def intsD : List D → Option (List Int)
  | [] => some []
  | .int i :: ds => obd (intsD ds) fun is => some (i :: is)
  | _ => none
theorem intsD_map (is : List Int) : intsD (is.map PyData.int) = some is := by
  induction is with
  | nil => rfl
  | cons i is ih => show obd (intsD (is.map PyData.int)) _ = _; rw [ih]; rfl
theorem intsD_some : ∀ {ds : List D} {is : List Int}, intsD ds = some is → ds = is.map PyData.int
  | [], is, h => by cases h; rfl
  | d :: ds, is, h => by
    cases d with
    | int i =>
      obtain ⟨is', e, h⟩ := obd_some (x := intsD ds) h
      cases h
      rw [intsD_some e]
      rfl
    | none => cases h
    | bool _ => cases h
    | str _ => cases h
    | list _ => cases h
    | tuple _ => cases h
    | dict _ => cases h
theorem RpA.ints : ∀ {is : List Int} {vs : List V}, RpA K O H vs (is.map PyData.int) → vs = is.map V.int
  | [], _, .nil => rfl
  | i :: is, _, .cons r t => by
    cases r
    rw [RpA.ints t]
    rfl
theorem rpA_ints (is : List Int) : RpA K O H (is.map V.int) (is.map PyData.int) := by
  induction is with
  | nil => exact .nil
  | cons i is ih => exact .cons (.int i) ih
def sumD : List D → Option BV
  | [.list ds] => obd (intsD ds) fun is => some (.d (.int is.sum))
  | _ => none
theorem cv_sum : CallV K (rSum K) sumD := by
  intro O H xs ds b Q hO px ef q
  unfold sumD at ef
  split at ef
  · obtain ⟨is, e1, ef⟩ := obd_some ef
    cases ef
    rw [intsD_some e1] at px
    obtain ⟨v, rfl, p⟩ := px.one
    obtain ⟨a, vs, rfl, h1, r⟩ := p.list
    rw [r.ints] at h1
    exact ⟨a, is, rfl, SqL.of h1, q _ _ .refl (.int _)⟩
  · cases ef
def maxI : List Int → Int
  | [] => 0
  | [a] => a
  | a :: l => let m := maxI l; if m > a then m else a
def minI : List Int → Int
  | [] => 0
  | [a] => a
  | a :: l => let m := minI l; if m < a then m else a
theorem maxI_mem : ∀ {l : List Int}, l ≠ [] → maxI l ∈ l
  | [], h => absurd rfl h
  | [a], _ => List.mem_singleton.mpr rfl
  | a :: b :: l, _ => by
    have ih := maxI_mem (l := b :: l) (by simp)
    show (if maxI (b :: l) > a then maxI (b :: l) else a) ∈ _
    split
    · exact List.mem_cons_of_mem _ ih
    · exact List.mem_cons_self
theorem maxI_ge : ∀ {l : List Int} {y : Int}, y ∈ l → y ≤ maxI l
  | [], y, h => by cases h
  | [a], y, h => by rw [List.mem_singleton.mp h]; exact Int.le_refl _
  | a :: b :: l, y, h => by
    show y ≤ (if maxI (b :: l) > a then maxI (b :: l) else a)
    rcases List.mem_cons.mp h with rfl | h
    · split <;> omega
    · have ih := maxI_ge (l := b :: l) h
      split <;> omega
theorem minI_mem : ∀ {l : List Int}, l ≠ [] → minI l ∈ l
  | [], h => absurd rfl h
  | [a], _ => List.mem_singleton.mpr rfl
  | a :: b :: l, _ => by
    have ih := minI_mem (l := b :: l) (by simp)
    show (if minI (b :: l) < a then minI (b :: l) else a) ∈ _
    split
    · exact List.mem_cons_of_mem _ ih
    · exact List.mem_cons_self
theorem minI_le : ∀ {l : List Int} {y : Int}, y ∈ l → minI l ≤ y
  | [], y, h => by cases h
  | [a], y, h => by rw [List.mem_singleton.mp h]; exact Int.le_refl _
  | a :: b :: l, y, h => by
    show (if minI (b :: l) < a then minI (b :: l) else a) ≤ y
    rcases List.mem_cons.mp h with rfl | h
    · split <;> omega
    · have ih := minI_le (l := b :: l) h
      split <;> omega
def maxD : List D → Option BV
  | [.int i, .int j] => some (.d (.int (if j > i then j else i)))
  | [.list ds] => obd (intsD ds) fun is => if is.isEmpty then none else some (.d (.int (maxI is)))
  | _ => none
def minD : List D → Option BV
  | [.int i, .int j] => some (.d (.int (if j < i then j else i)))
  | [.list ds] => obd (intsD ds) fun is => if is.isEmpty then none else some (.d (.int (minI is)))
  | _ => none
def rMaxA (K : PySem.W.Frag) : List V → Hp → VK → Prop := fun xs H Q => (fun xs H Q => ∃ i j, xs = [.int i, .int j] ∧ Q (.int (if j > i then j else i)) H) xs H Q ∨ rMax K xs H Q
def rMinA (K : PySem.W.Frag) : List V → Hp → VK → Prop := fun xs H Q => (fun xs H Q => ∃ i j, xs = [.int i, .int j] ∧ Q (.int (if j < i then j else i)) H) xs H Q ∨ rMin K xs H Q
theorem cv_max : CallV K (rMaxA K) maxD := by
  intro O H xs ds b Q hO px ef q
  unfold maxD at ef
  split at ef
  · cases ef
    obtain ⟨v, w, rfl, p1, p2⟩ := px.two
    rw [p1.int, p2.int]
    exact .inl ⟨_, _, rfl, q _ _ .refl (.int _)⟩
  · obtain ⟨is, e1, ef⟩ := obd_some ef
    split at ef
    · cases ef
    · rename_i hne
      cases ef
      rw [intsD_some e1] at px
      obtain ⟨v, rfl, p⟩ := px.one
      obtain ⟨a, vs, rfl, h1, r⟩ := p.list
      rw [r.ints] at h1
      have hne' : is ≠ [] := fun z => hne (by rw [z]; rfl)
      refine .inr ⟨a, is, rfl, SqL.of h1, List.length_pos_iff.mpr hne', fun m hm hle => ?_⟩
      have e : m = maxI is := Int.le_antisymm (maxI_ge hm) (hle _ (maxI_mem hne'))
      rw [e]
      exact q _ _ .refl (.int _)
  · cases ef
theorem cv_min : CallV K (rMinA K) minD := by
  intro O H xs ds b Q hO px ef q
  unfold minD at ef
  split at ef
  · cases ef
    obtain ⟨v, w, rfl, p1, p2⟩ := px.two
    rw [p1.int, p2.int]
    exact .inl ⟨_, _, rfl, q _ _ .refl (.int _)⟩
  · obtain ⟨is, e1, ef⟩ := obd_some ef
    split at ef
    · cases ef
    · rename_i hne
      cases ef
      rw [intsD_some e1] at px
      obtain ⟨v, rfl, p⟩ := px.one
      obtain ⟨a, vs, rfl, h1, r⟩ := p.list
      rw [r.ints] at h1
      have hne' : is ≠ [] := fun z => hne (by rw [z]; rfl)
      refine .inr ⟨a, is, rfl, SqL.of h1, List.length_pos_iff.mpr hne', fun m hm hle => ?_⟩
      have e : m = minI is := Int.le_antisymm (hle _ (minI_mem hne')) (minI_le hm)
      rw [e]
      exact q _ _ .refl (.int _)
  · cases ef
def tupleD : List D → Option BV
  | [.list ds] => some (.d (.tuple ds))
  | [.tuple ds] => some (.d (.tuple ds))
  | _ => none
def listD : List D → Option BV
  | [.list ds] => some (.new (.list ds))
  | [.tuple ds] => some (.new (.list ds))
  | _ => none
theorem cv_tuple : CallV K (fun xs H Q => ∃ p ys, xs = [.ref p] ∧ ((SqL K H p ys ∧ ∀ l, H l = none → Q (.ref l) (upd H l (.tup ys))) ∨ (SqT K H p ys ∧ Q (.ref p) H))) tupleD := by
  intro O H xs ds b Q hO px ef q
  unfold tupleD at ef
  split at ef
  · cases ef
    obtain ⟨v, rfl, p⟩ := px.one
    obtain ⟨a, vs, rfl, h1, r⟩ := p.list
    exact ⟨a, vs, rfl, .inl ⟨SqL.of h1, fun l hl => q _ _ (.upd hl) (vnew_tup hl hO r)⟩⟩
  · cases ef
    obtain ⟨v, rfl, p⟩ := px.one
    obtain ⟨a, vs, rfl, h1, r, rp⟩ := p.tuple
    exact ⟨a, vs, rfl, .inr ⟨h1, q _ _ .refl rp⟩⟩
  · cases ef
theorem cv_list : CallV K (fun xs H Q => ∃ p ys, xs = [.ref p] ∧ (SqL K H p ys ∨ SqT K H p ys) ∧ ∀ l, H l = none → Q (.ref l) (upd H l (.lst ys))) listD := by
  intro O H xs ds b Q hO px ef q
  unfold listD at ef
  split at ef
  · cases ef
    obtain ⟨v, rfl, p⟩ := px.one
    obtain ⟨a, vs, rfl, h1, r⟩ := p.list
    exact ⟨a, vs, rfl, .inl (SqL.of h1), fun l hl => q _ _ (.upd hl) (vnew_lst hl r)⟩
  · cases ef
    obtain ⟨v, rfl, p⟩ := px.one
    obtain ⟨a, vs, rfl, h1, r, rp⟩ := p.tuple
    exact ⟨a, vs, rfl, .inr h1, fun l hl => q _ _ (.upd hl) (vnew_lst hl r)⟩
  · cases ef
def boolsD : List D → Option (List Bool)
  | [] => some []
  | .bool i :: ds => obd (boolsD ds) fun is => some (i :: is)
  | _ => none
theorem boolsD_map (is : List Bool) : boolsD (is.map PyData.bool) = some is := by
  induction is with
  | nil => rfl
  | cons i is ih => show obd (boolsD (is.map PyData.bool)) _ = _; rw [ih]; rfl
theorem boolsD_some : ∀ {ds : List D} {is : List Bool}, boolsD ds = some is → ds = is.map PyData.bool
  | [], is, h => by cases h; rfl
  | d :: ds, is, h => by
    cases d with
    | bool i =>
      obtain ⟨is', e, h⟩ := obd_some (x := boolsD ds) h
      cases h
      rw [boolsD_some e]
      rfl
    | none => cases h
    | int _ => cases h
    | str _ => cases h
    | list _ => cases h
    | tuple _ => cases h
    | dict _ => cases h
theorem RpA.bools : ∀ {is : List Bool} {vs : List V}, RpA K O H vs (is.map PyData.bool) → vs = is.map V.bl
  | [], _, .nil => rfl
  | i :: is, _, .cons r t => by
    cases r
    rw [RpA.bools t]
    rfl
def allD : List D → Option BV
  | [.list ds] => obd (boolsD ds) fun is => some (.d (.bool (is.all id)))
  | _ => none
def anyD : List D → Option BV
  | [.list ds] => obd (boolsD ds) fun is => some (.d (.bool (is.any id)))
  | _ => none
theorem cv_all : CallV K (rAll K) allD := by
  intro O H xs ds b Q hO px ef q
  unfold allD at ef
  split at ef
  · obtain ⟨is, e1, ef⟩ := obd_some ef
    cases ef
    rw [boolsD_some e1] at px
    obtain ⟨v, rfl, p⟩ := px.one
    obtain ⟨a, vs, rfl, h1, r⟩ := p.list
    rw [r.bools] at h1
    exact ⟨a, is, rfl, SqL.of h1, q _ _ .refl (.bl _)⟩
  · cases ef
theorem cv_any : CallV K (rAny K) anyD := by
  intro O H xs ds b Q hO px ef q
  unfold anyD at ef
  split at ef
  · obtain ⟨is, e1, ef⟩ := obd_some ef
    cases ef
    rw [boolsD_some e1] at px
    obtain ⟨v, rfl, p⟩ := px.one
    obtain ⟨a, vs, rfl, h1, r⟩ := p.list
    rw [r.bools] at h1
    exact ⟨a, is, rfl, SqL.of h1, q _ _ .refl (.bl _)⟩
  · cases ef
def strD : List D → Option BV
  | [.int i] => if decide (i.natAbs < 1000000) then some (.d (.str (toString i))) else none
  | _ => none
theorem cv_str : CallV K (fun xs H Q => ∃ i, xs = [.int i] ∧ i.natAbs.log2 < 1920 ∧ Q (.str (toString i)) H) strD := by
  intro O H xs ds b Q hO px ef q
  unfold strD at ef
  split at ef
  · split at ef
    · rename_i i hz
      have hz' : i.natAbs < 1000000 := of_decide_eq_true hz
      cases ef
      obtain ⟨v, rfl, p⟩ := px.one
      rw [p.int]
      refine ⟨_, rfl, ?_, q _ _ .refl (.str _)⟩
      by_cases h0 : i.natAbs = 0
      · rw [h0]; decide
      · exact Nat.lt_trans ((Nat.log2_lt h0).mpr (Nat.lt_trans hz' (by decide : (1000000 : Nat) < 2 ^ 20))) (by decide)
    · cases ef
  · cases ef
end
theorem cr_maxA {X : Cx} (hc : X.calm = true) : CallR X (.builtin "max") (rMaxA X.K) := (call_max2 hc).or (cr_max hc)
theorem cr_minA {X : Cx} (hc : X.calm = true) : CallR X (.builtin "min") (rMinA X.K) := (call_min2 hc).or (cr_min hc)
def mRg1 (m : ME) : ME := fun ρ => bnd (m ρ) fun r ρ1 => obd (peek ρ1 r) fun d => match d with
  | .int j => if decide (0 ≤ j) && decide (j ≤ 16777216) then some (.new (.list (rngD 0 j.toNat)), ρ1) else none
  | _ => none
theorem rg_rp {K : PySem.W.Frag} {O : AS} {H : Hp} {lo hi : Int} : RpA K O H (rgV lo hi) (rngD lo (hi - lo).toNat) := by
  unfold rgV rngD
  induction List.range (hi - lo).toNat with
  | nil => exact .nil
  | cons n l ih => exact .cons (.int _) ih
theorem se_listRg1 {p p2 q : Pos} (hm : C.mg "list" = none) (hm2 : C.mg "range" = none) (ha : SE C Rs a ma) (hg : ∀ i, Gl (cx C (Rs i)) "list" := by intro _; rfl) (hg2 : ∀ i, Gl (cx C (Rs i)) "range" := by intro _; rfl)
    (na : ∀ i, starEach [a] (Rs i).env = (false, eval a (Rs i).env) :: starEach [] (Rs i).env := by intro _; rfl) (na2 : ∀ i, starEach [Expr.Call (.Name "range" p2) [a] [] q] (Rs i).env = (false, eval (Expr.Call (.Name "range" p2) [a] [] q) (Rs i).env) :: starEach [] (Rs i).env := by intro _; rfl) :
    SE C Rs (.Call (.Name "list" p) [.Call (.Name "range" p2) [a] [] q] [] pos) (mRg1 ma) := by
  obtain ⟨t, pa, s⟩ := ha
  refine ⟨_, fun i => pe_listRg (X := cx C (Rs i)) rfl (hg i) hm (prg_1 (hg2 i) hm2 (pa i) (na i)) (na2 i), fun A σ ρ H r ρ' Q E e q => ?_⟩
  obtain ⟨r1, ρ1, e1, e⟩ := bnd_some e
  obtain ⟨d, e2, e⟩ := obd_some e
  split at e
  · split at e
    · rename_i j hz
      rw [Bool.and_eq_true, decide_eq_true_eq, decide_eq_true_eq] at hz
      cases e
      refine s.use E e1 fun x H1 x1 E1 b1 => ?_
      refine ⟨j, (b1.peek E1 e2).int, RgOk.of_le (by decide) hz.2 (by decide) hz.1, fun l hl => ?_⟩
      have vr : VRes C.K (Av A σ ρ') H1 (upd H1 l (.lst (rgV 0 j))) (.ref l) (.new (.list (rngD 0 j.toNat))) := by
        have rr : RpA C.K (Av A σ ρ') H1 (rgV 0 j) (rngD 0 (j - 0).toNat) := rg_rp
        rw [Int.sub_zero] at rr
        exact vnew_lst hl rr
      obtain ⟨x2, rr⟩ := vr.lift (H₀ := H) E1 (.upd hl) (res_start x1)
      exact q _ _ (x1.trans x2) rr
    · cases e
  · cases e
end
end Nb

namespace Nb
open PySem PySem.Spec PyProof.Rows L2
section
variable {ι : Type} {C : Core} {Rs : ι → Rest} {a b c e : Expr} {es : List Expr} {ma mb mc m me : ME} {mas : MA} {pos : Pos}
def ixD (d e : D) : Option BV := match d, e with
  | .list ds, .int i => obd (atI ds i) fun x => some (.d x)
  | .tuple ds, .int i => obd (atI ds i) fun x => some (.d x)
  | .str z, .int i => if szOk z.length then obd (atI z.cps.toList i) fun c => some (.d (.str ⟨#[c]⟩)) else none
  | .dict [(.list ds, .none)], .int i => obd (atI ds i) fun x => some (.d x)
  | _, _ => none
section
variable {K : PySem.W.Frag} {O : AS} {H : Hp}
theorem RpA.atI {vs : List V} {ds : List D} {i : Int} {x : D} (r : RpA K O H vs ds) (e : L2.atI ds i = some x) : ∃ v, L2.atI vs i = some v ∧ Rp K O H v x := by
  unfold L2.atI at e ⊢
  rw [r.length]
  cases hj : ixN ds.length i with
  | none => rw [hj] at e; cases e
  | some j =>
    rw [hj] at e
    obtain ⟨v, hv, rv⟩ := r.get (i := j) (d := x) e
    exact ⟨v, hv, rv⟩
theorem ov_ix : OpV K (rIx K) ixD := by
  intro O H x y d e b Q hO px py ef q
  unfold ixD at ef
  split at ef
  · obtain ⟨z, ez, ef⟩ := obd_some ef
    cases ef
    obtain ⟨a, vs, rfl, h1, r⟩ := px.list
    obtain ⟨v, hv, rv⟩ := r.atI ez
    rw [py.int]
    exact .inl ⟨a, vs, _, v, rfl, rfl, SqL.of h1, hv, q _ _ .refl rv⟩
  · obtain ⟨z, ez, ef⟩ := obd_some ef
    cases ef
    obtain ⟨a, vs, rfl, h1, r, _⟩ := px.tuple
    obtain ⟨v, hv, rv⟩ := r.atI ez
    rw [py.int]
    exact .inr (.inl ⟨a, vs, _, v, rfl, rfl, h1, hv, q _ _ .refl rv⟩)
  · split at ef
    · rename_i hz
      obtain ⟨c, ec, ef⟩ := obd_some ef
      cases ef
      rw [px.str, py.int]
      exact .inr (.inr ⟨_, _, c, rfl, rfl, szOk_le hz, ec, q _ _ .refl (.str _)⟩)
    · cases ef
  · obtain ⟨z, ez, ef⟩ := obd_some ef
    cases ef
    obtain ⟨a, vs, rfl, h1, r⟩ := px.scr fun _ => kD_lst
    obtain ⟨v, hv, rv⟩ := r.atI ez
    rw [py.int]
    exact .inl ⟨a, vs, _, v, rfl, rfl, h1, hv, q _ _ .refl rv⟩
  · cases ef
def keyK : D → Option Key
  | .int i => some (.inl i)
  | .str x => some (.inr x)
  | _ => none
def isK : List (D × D) → Bool
  | (.none, _) :: _ => false
  | (.list _, _) :: _ => false
  | _ => true
def keyB (d e : D) : Bool := match d, e with
  | .int i, .int j => i == j
  | .str x, .str y => x == y
  | _, _ => false
def dFind : List (D × D) → D → Option D
  | [], _ => none
  | (k', v) :: r, k => if keyB k' k then some v else dFind r k
theorem keyK_some {d : D} {k : Key} (h : keyK d = some k) : d = kD k := by
  cases d with
  | int i => cases h; rfl
  | str x => cases h; rfl
  | none => cases h
  | bool _ => cases h
  | list _ => cases h
  | tuple _ => cases h
  | dict _ => cases h
theorem keyB_kD (k j : Key) : keyB (kD k) (kD j) = decide (k = j) := by
  cases k with
  | inl i => cases j with
    | inl j => show (i == j) = _; rw [key_ll]
    | inr y => rw [key_lr]; rfl
  | inr x => cases j with
    | inl j => rw [key_rl]; rfl
    | inr y =>
      show (x == y) = _
      rw [key_rr]
      by_cases h : x = y
      · subst h; simp
      · rw [decide_eq_false h]; exact beq_eq_false_iff_ne.mpr h
theorem Pk.keyV {v : V} {d : D} {k : Key} (h : Pk K O H v d) (e : keyK d = some k) : v = kV k := by
  cases d with
  | int i => cases e; rw [h.int]; rfl
  | str x => cases e; rw [h.str]; rfl
  | none => cases e
  | bool _ => cases e
  | list _ => cases e
  | tuple _ => cases e
  | dict _ => cases e
theorem Pk.dK {v : V} {ds : List (D × D)} (h : Pk K O H v (.dict ds)) (hk : isK ds = true) : ∃ a kvs, v = .ref a ∧ Rd H a (.dK kvs) ∧ ds.map (·.1) = kvs.map (fun p => kD p.1) ∧ RpA K O H (kvs.map (·.2)) (ds.map (·.2)) := by
  rcases h with h | ⟨a, rfl, t⟩
  · cases h with
    | dK h n e r => exact ⟨_, _, rfl, h, e, r⟩
    | dT h n e r => cases hk
    | scr h r => cases hk
  · cases t with
    | dK h e r => exact ⟨a, _, rfl, h, e, r⟩
    | dT h e r => cases hk
theorem dFind_val {k : Key} : ∀ {kvs : List (Key × V)} {ds : List (D × D)}, ds.map (·.1) = kvs.map (fun p => kD p.1) → RpA K O H (kvs.map (·.2)) (ds.map (·.2)) →
    (∀ d, dFind ds (kD k) = some d → ∃ v, valV kvs k = some v ∧ Rp K O H v d) ∧ (dFind ds (kD k) = none → valV kvs k = none)
  | [], [], _, _ => ⟨fun d h => (nomatch h), fun _ => rfl⟩
  | [], _ :: _, h, _ => by cases h
  | _ :: _, [], h, _ => by cases h
  | (k1, v1) :: kvs, (d1, x1) :: ds, h, r => by
    rw [List.map_cons, List.map_cons] at h
    injection h with h1 h2
    rw [List.map_cons, List.map_cons] at r
    cases r with
    | cons r1 r2 =>
      have ih := dFind_val (k := k) h2 r2
      have h1' : d1 = kD k1 := h1
      subst h1'
      by_cases hk : k1 = k
      · subst hk
        have e : dFind ((kD k1, x1) :: ds) (kD k1) = some x1 := by
          unfold dFind
          rw [keyB_kD, decide_eq_true rfl]
          rfl
        rw [e, valV_pos (p := (k1, v1)) rfl]
        exact ⟨fun d hd => by cases hd; exact ⟨v1, rfl, r1⟩, fun hd => by cases hd⟩
      · have e : dFind ((kD k1, x1) :: ds) (kD k) = dFind ds (kD k) := by
          show (if keyB (kD k1) (kD k) then some x1 else dFind ds (kD k)) = _
          rw [keyB_kD, decide_eq_false hk]
          rfl
        rw [e, valV_neg (p := (k1, v1)) hk]
        exact ih
def dGetO (d k : D) : Option (Option D) := match d with
  | .dict ds => if isK ds && (keyK k).isSome then some (dFind ds k) else none
  | _ => none
theorem dGetO_ok {x y : V} {d k : D} {o : Option D} (px : Pk K O H x d) (py : Pk K O H y k) (e : dGetO d k = some o) :
    ∃ a r, x = .ref a ∧ IsD H a ∧ DGet H a y r ∧ (∀ z, o = some z → ∃ v, r = some v ∧ Rp K O H v z) ∧ (o = none → r = none) := by
  unfold dGetO at e
  split at e
  · split at e
    · rename_i ds hc
      rw [Bool.and_eq_true] at hc
      cases e
      obtain ⟨k', ek⟩ := Option.isSome_iff_exists.mp hc.2
      obtain ⟨a, kvs, rfl, h, e, r⟩ := px.dK hc.1
      rw [py.keyV ek, keyK_some ek]
      obtain ⟨f1, f2⟩ := dFind_val (k := k') e r
      exact ⟨a, valV kvs k', rfl, .inl ⟨kvs, h⟩, .inl ⟨kvs, k', h, rfl, rfl⟩, fun z hz => f1 z hz, fun hz => f2 hz⟩
    · cases e
  · cases e
end
def isDct : D → Bool | .dict [(.list _, .none)] => false | .dict _ => true | _ => false
def subD (d e : D) : Option BV := if isDct d then obd (dGetO d e) fun o => obd o fun x => some (.d x) else ixD d e
theorem pe_or {X : Cx} {e : Expr} {t t' : TE} (h : PE X e t) (h' : PE X e t') : PE X e (fun σ H Q => t σ H Q ∨ t' σ H Q) := ⟨fun pins s σ H Q I q => q.elim (h.run pins s σ H Q I) (h'.run pins s σ H Q I)⟩
theorem hu1 {A : Around} (h : A.units + 64 < cLine) : A.units + 1 < cLine := Nat.lt_of_le_of_lt (Nat.add_le_add_left (by decide : 1 ≤ 64) _) h
theorem se_ix (hu : C.A.units + 64 < cLine) (ha : SE C Rs a ma) (hb : SE C Rs b mb) (hs : PlainIx b := by intro _ _; rfl) : SE C Rs (.Subscript a b pos) (mBin subD ma mb) := by
  obtain ⟨ta, pa, sa⟩ := ha
  obtain ⟨tb, pb, sb⟩ := hb
  refine ⟨fun σ H Q => tOp (rIx C.K) ta tb σ H Q ∨ tDGet ta tb σ H Q, fun i => pe_or (pe_ix (X := cx C (Rs i)) ix_seq (pa i) (pb i) hs) (pe_dget (X := cx C (Rs i)) (hu1 hu) (pa i) (pb i) hs), fun A σ ρ H rr ρ' Q E e q => ?_⟩
  obtain ⟨r1, ρ1, e1, e⟩ := bnd_some e
  obtain ⟨r2, ρ2, e2, e⟩ := bnd_some e
  obtain ⟨d1, p1, e⟩ := obd_some e
  obtain ⟨d2, p2, e⟩ := obd_some e
  obtain ⟨b, eb, e⟩ := obd_some e
  cases e
  unfold subD at eb
  split at eb
  · obtain ⟨o, eo, eb⟩ := obd_some eb
    obtain ⟨z, ez, eb⟩ := obd_some eb
    cases eb
    refine .inr (sa.use E e1 fun x H1 x1 E1 b1 => sb.use E1 e2 fun y H2 x2 E2 b2 => ?_)
    obtain ⟨a', r, rfl, _, g, g1, _⟩ := dGetO_ok ((b1.keep x2).peek E2 p1) (b2.peek E2 p2) eo
    obtain ⟨v, rfl, rv⟩ := g1 z ez
    exact ⟨a', v, rfl, g, q v H2 (x1.trans x2) ⟨E2, rv⟩⟩
  · refine .inl (sa.use E e1 fun x H1 x1 E1 b1 => sb.use E1 e2 fun y H2 x2 E2 b2 => ?_)
    refine ov_ix _ H2 x y d1 d2 _ Q (fun b => E2.there) ((b1.keep x2).peek E2 p1) (b2.peek E2 p2) eb fun v H3 g vr => ?_
    obtain ⟨x3, rs⟩ := vr.lift (H₀ := H) E2 g (res_start (x1.trans x2))
    exact q v H3 ((x1.trans x2).trans x3) rs
def flatD : D → Bool
  | .none => true
  | .bool _ => true
  | .int _ => true
  | .str _ => true
  | _ => false
def inS (d : D) (ds : List D) : Option Bool := if flatD d && ds.all flatD then some (ds.any fun z => PyData.eqv z d) else none
def inL (d : D) (ds : List D) : Option Bool := if flatD d && ds.all flatD then some (ds.any fun z => PyData.eqv z d) else
  if SeqAt.shaped d && SeqAt.shaped (.list ds) then some (ds.any fun z => PyData.eqv z d) else none
def inO (d : D) (e : D) : Option Bool := match e with
  | .dict ds => if isK ds then obd (dGetO e d) (fun o => some o.isSome) else none
  | .tuple ds => inS d ds
  | .list ds => inL d ds
  | _ => none
def inD (d e : D) : Option BV := obd (inO d e) fun b => some (.d (.bool b))
def ninD (d e : D) : Option BV := obd (inO d e) fun b => some (.d (.bool (!b)))
section
variable {K : PySem.W.Frag} {O : AS} {H : Hp}
theorem Pk.flat {v : V} {d : D} (h : Pk K O H v d) (f : flatD d = true) : flatV v = true := by
  cases d with
  | none => rw [h.none]; rfl
  | bool _ => rw [h.bool]; rfl
  | int _ => rw [h.int]; rfl
  | str _ => rw [h.str]; rfl
  | list _ => cases f
  | tuple _ => cases f
  | dict _ => cases f
theorem flat_eqv {v w : V} {d e : D} (h : Pk K O H v d) (h' : Pk K O H w e) (f : flatD d = true) (f' : flatD e = true) : eqV v w = PyData.eqv d e := by
  cases d with
  | none => rw [h.none]; cases e with
    | none => rw [h'.none]; simp [eqV, PyData.eqv]
    | bool _ => rw [h'.bool]; simp [eqV, PyData.eqv]
    | int _ => rw [h'.int]; simp [eqV, PyData.eqv]
    | str _ => rw [h'.str]; simp [eqV, PyData.eqv]
    | _ => cases f'
  | bool _ => rw [h.bool]; cases e with
    | none => rw [h'.none]; simp [eqV, PyData.eqv]
    | bool _ => rw [h'.bool]; simp [eqV, PyData.eqv]
    | int _ => rw [h'.int]; simp [eqV, PyData.eqv]
    | str _ => rw [h'.str]; simp [eqV, PyData.eqv]
    | _ => cases f'
  | int _ => rw [h.int]; cases e with
    | none => rw [h'.none]; simp [eqV, PyData.eqv]
    | bool _ => rw [h'.bool]; simp [eqV, PyData.eqv]
    | int _ => rw [h'.int]; simp [eqV, PyData.eqv]
    | str _ => rw [h'.str]; simp [eqV, PyData.eqv]
    | _ => cases f'
  | str _ => rw [h.str]; cases e with
    | none => rw [h'.none]; simp [eqV, PyData.eqv]
    | bool _ => rw [h'.bool]; simp [eqV, PyData.eqv]
    | int _ => rw [h'.int]; simp [eqV, PyData.eqv]
    | str _ => rw [h'.str]; simp [eqV, PyData.eqv]
    | _ => cases f'
  | list _ => cases f
  | tuple _ => cases f
  | dict _ => cases f
theorem RpA.flat : ∀ {vs : List V} {ds : List D}, RpA K O H vs ds → ds.all flatD = true → vs.all flatV = true
  | _, _, .nil, _ => rfl
  | _, _, .cons r t, f => by
    rw [List.all_cons, Bool.and_eq_true] at f ⊢
    exact ⟨Pk.flat (.inl r) f.1, t.flat f.2⟩
theorem RpA.inV {v : V} {d : D} (h : Pk K O H v d) (f : flatD d = true) : ∀ {vs : List V} {ds : List D}, RpA K O H vs ds → ds.all flatD = true → L2.inV v vs = ds.any fun z => PyData.eqv z d
  | _, _, .nil, _ => rfl
  | _, _, .cons r t, g => by
    rw [List.all_cons, Bool.and_eq_true] at g
    unfold L2.inV
    rw [List.any_cons, List.any_cons, flat_eqv (.inl r) h g.1 f, ← RpA.inV h f t g.2]
    rfl
def rInA (K : PySem.W.Frag) : R2 := fun x y H Q => rIn K false x y H Q ∨ rInD K x y H Q
def rNinA (K : PySem.W.Frag) : R2 := fun x y H Q => rIn K true x y H Q ∨ rNotInD K x y H Q
theorem in_any {x y : V} {d : D} {ds : List D} {k : Bool} (px : Pk K O H x d) (hy : (∃ a vs, y = .ref a ∧ SqL K H a vs ∧ RpA K O H vs ds) ∨ ∃ a vs, y = .ref a ∧ SqT K H a vs ∧ RpA K O H vs ds) (e : inS d ds = some k) :
    ∃ p xs, y = .ref p ∧ (SqL K H p xs ∨ SqT K H p xs) ∧ flatV x = true ∧ xs.all flatV = true ∧ L2.inV x xs = k := by
  unfold inS at e
  split at e
  · rename_i hc
    rw [Bool.and_eq_true] at hc
    cases e
    rcases hy with ⟨a, vs, rfl, h, r⟩ | ⟨a, vs, rfl, h, r⟩
    · exact ⟨a, vs, rfl, .inl h, px.flat hc.1, r.flat hc.2, RpA.inV px hc.1 r hc.2⟩
    · exact ⟨a, vs, rfl, .inr h, px.flat hc.1, r.flat hc.2, RpA.inV px hc.1 r hc.2⟩
  · cases e
def inQ (d e : D) : Option Bool := match e with
  | .tuple ds => inS d ds
  | .list ds => inL d ds
  | _ => none
theorem ov_in : OpV K (rInA K) (fun d e => obd (inQ d e) fun b => some (.d (.bool b))) := by
  intro O H x y d e b Q hO px py ef q
  obtain ⟨k, ek, ef⟩ := obd_some ef
  cases ef
  unfold inQ at ek
  split at ek
  · obtain ⟨a, vs, rfl, h1, r, _⟩ := py.tuple
    obtain ⟨p, xs, e, hs, f1, f2, f3⟩ := in_any px (.inr ⟨a, vs, rfl, h1, r⟩) ek
    exact .inl ⟨p, xs, e, hs, f1, f2, by rw [if_neg Bool.false_ne_true, f3]; exact q _ _ .refl (.bl _)⟩
  · rename_i ds0
    obtain ⟨a, vs, ea, h1, r⟩ := py.list
    unfold inL at ek
    split at ek
    · rename_i hc
      have ek' : inS d ds0 = some k := by unfold inS; rw [if_pos hc]; exact ek
      obtain ⟨p, xs, e, hs, f1, f2, f3⟩ := in_any px (.inl ⟨a, vs, ea, SqL.of h1, r⟩) ek'
      exact .inl ⟨p, xs, e, hs, f1, f2, by rw [if_neg Bool.false_ne_true, f3]; exact q _ _ .refl (.bl _)⟩
    · split at ek
      · rename_i hc
        rw [Bool.and_eq_true] at hc
        cases ek
        exact .inr ⟨_, _, px.dp (shaped_lay hc.1), py.dp (shaped_lay hc.2), hc.1, hc.2, q _ _ .refl (.bl _)⟩
      · cases ek
  · cases ek
theorem ov_nin : OpV K (rNinA K) (fun d e => obd (inQ d e) fun b => some (.d (.bool (!b)))) := by
  intro O H x y d e b Q hO px py ef q
  obtain ⟨k, ek, ef⟩ := obd_some ef
  cases ef
  unfold inQ at ek
  split at ek
  · obtain ⟨a, vs, rfl, h1, r, _⟩ := py.tuple
    obtain ⟨p, xs, e, hs, f1, f2, f3⟩ := in_any px (.inr ⟨a, vs, rfl, h1, r⟩) ek
    exact .inl ⟨p, xs, e, hs, f1, f2, by rw [if_pos rfl, f3]; exact q _ _ .refl (.bl _)⟩
  · rename_i ds0
    obtain ⟨a, vs, ea, h1, r⟩ := py.list
    unfold inL at ek
    split at ek
    · rename_i hc
      have ek' : inS d ds0 = some k := by unfold inS; rw [if_pos hc]; exact ek
      obtain ⟨p, xs, e, hs, f1, f2, f3⟩ := in_any px (.inl ⟨a, vs, ea, SqL.of h1, r⟩) ek'
      exact .inl ⟨p, xs, e, hs, f1, f2, by rw [if_pos rfl, f3]; exact q _ _ .refl (.bl _)⟩
    · split at ek
      · rename_i hc
        rw [Bool.and_eq_true] at hc
        cases ek
        exact .inr ⟨_, _, px.dp (shaped_lay hc.1), py.dp (shaped_lay hc.2), hc.1, hc.2, q _ _ .refl (.bl _)⟩
      · cases ek
  · cases ek
end
theorem pt_or {X : Cx} {e : Expr} {t t' : TE} (h : PT X e (tB t)) (h' : PT X e (tB t')) : PT X e (tB (fun σ H Q => t σ H Q ∨ t' σ H Q)) := ⟨fun pins s σ H Q I q => by
  rcases q with q | q
  · exact h.run pins s σ H Q I q
  · exact h'.run pins s σ H Q I q⟩
theorem hu65 {A : Around} (h : A.units + 65 < cLine) : A.units + 64 < cLine := by omega
theorem inO_dct {d e : D} {b : Bool} (h : inO d e = some b) : (True ∧ ∃ o, dGetO e d = some o ∧ b = o.isSome) ∨ (True ∧ inQ d e = some b) := by
  unfold inO at h
  split at h
  · split at h
    · obtain ⟨o, eo, h⟩ := obd_some h
      cases h
      exact .inl ⟨trivial, o, eo, rfl⟩
    · cases h
  · exact .inr ⟨trivial, h⟩
  · exact .inr ⟨trivial, h⟩
  · cases h
theorem sc_in (hu : C.A.units + 65 < cLine) (ha : SE C Rs a ma) (hb : SE C Rs b mb) (hm : behindInMarks .In b = false := by rfl) : SC C Rs (.Compare a [.In] [b] pos) (mBin inD ma mb) := by
  obtain ⟨ta, pa, sa⟩ := ha
  obtain ⟨tb, pb, sb⟩ := hb
  refine ⟨fun σ H Q => tOp (rInA C.K) ta tb σ H Q ∨ tDIn ta tb σ H Q, fun i => pe_or (pe_cmpR (X := cx C (Rs i)) (op_in_seq.or (op_inD hu)) (pa i) (pb i) hm) (pe_cmp (pc_din (X := cx C (Rs i)) (hu1 (hu65 hu)) (pa i) (pb i)) hm),
    fun i => pt_or (pt_cmpR (X := cx C (Rs i)) (op_in_seq.or (op_inD hu)) (pa i) (pb i) hm) (pt_cmp (pc_din (X := cx C (Rs i)) (hu1 (hu65 hu)) (pa i) (pb i)) hm), fun A σ ρ H rr ρ' Q E e q => ?_⟩
  obtain ⟨r1, ρ1, e1, e⟩ := bnd_some e
  obtain ⟨r2, ρ2, e2, e⟩ := bnd_some e
  obtain ⟨d1, p1, e⟩ := obd_some e
  obtain ⟨d2, p2, e⟩ := obd_some e
  obtain ⟨b', eb, e⟩ := obd_some e
  cases e
  obtain ⟨k, ek, eb⟩ := obd_some eb
  cases eb
  rcases inO_dct ek with ⟨_, o, eo, rfl⟩ | ⟨_, eq⟩
  · refine .inr (sa.use E e1 fun x H1 x1 E1 b1 => sb.use E1 e2 fun y H2 x2 E2 b2 => ?_)
    obtain ⟨a', r, rfl, _, g, g1, g2⟩ := dGetO_ok (b2.peek E2 p2) ((b1.keep x2).peek E2 p1) eo
    refine ⟨a', r, rfl, g, ?_⟩
    have er : r.isSome = o.isSome := by
      cases o with
      | none =>
        have z := g2 rfl
        subst z
        rfl
      | some z => obtain ⟨v, rfl, _⟩ := g1 z rfl; rfl
    rw [er]
    exact q _ H2 (x1.trans x2) ⟨E2, .bl _⟩
  · refine .inl (sa.use E e1 fun x H1 x1 E1 b1 => sb.use E1 e2 fun y H2 x2 E2 b2 => ?_)
    refine ov_in _ H2 x y d1 d2 (.d (.bool k)) Q (fun b => E2.there) ((b1.keep x2).peek E2 p1) (b2.peek E2 p2) (by dsimp only; rw [eq]; rfl) fun v H3 g vr => ?_
    obtain ⟨x3, rs⟩ := vr.lift (H₀ := H) E2 g (res_start (x1.trans x2))
    exact q v H3 ((x1.trans x2).trans x3) rs
theorem sc_nin (hu : C.A.units + 65 < cLine) (ha : SE C Rs a ma) (hb : SE C Rs b mb) (hm : behindInMarks .NotIn b = false := by rfl) : SC C Rs (.Compare a [.NotIn] [b] pos) (mBin ninD ma mb) := by
  obtain ⟨ta, pa, sa⟩ := ha
  obtain ⟨tb, pb, sb⟩ := hb
  refine ⟨fun σ H Q => tOp (rNinA C.K) ta tb σ H Q ∨ tDNotIn ta tb σ H Q, fun i => pe_or (pe_cmpR (X := cx C (Rs i)) (op_notIn_seq.or (op_notInD hu)) (pa i) (pb i) hm) (pe_cmp (pc_dnotin (X := cx C (Rs i)) (hu1 (hu65 hu)) (pa i) (pb i)) hm),
    fun i => pt_or (pt_cmpR (X := cx C (Rs i)) (op_notIn_seq.or (op_notInD hu)) (pa i) (pb i) hm) (pt_cmp (pc_dnotin (X := cx C (Rs i)) (hu1 (hu65 hu)) (pa i) (pb i)) hm), fun A σ ρ H rr ρ' Q E e q => ?_⟩
  obtain ⟨r1, ρ1, e1, e⟩ := bnd_some e
  obtain ⟨r2, ρ2, e2, e⟩ := bnd_some e
  obtain ⟨d1, p1, e⟩ := obd_some e
  obtain ⟨d2, p2, e⟩ := obd_some e
  obtain ⟨b', eb, e⟩ := obd_some e
  cases e
  obtain ⟨k, ek, eb⟩ := obd_some eb
  cases eb
  rcases inO_dct ek with ⟨_, o, eo, rfl⟩ | ⟨_, eq⟩
  · refine .inr (sa.use E e1 fun x H1 x1 E1 b1 => sb.use E1 e2 fun y H2 x2 E2 b2 => ?_)
    obtain ⟨a', r, rfl, _, g, g1, g2⟩ := dGetO_ok (b2.peek E2 p2) ((b1.keep x2).peek E2 p1) eo
    refine ⟨a', r, rfl, g, ?_⟩
    have er : r.isSome = o.isSome := by
      cases o with
      | none =>
        have z := g2 rfl
        subst z
        rfl
      | some z => obtain ⟨v, rfl, _⟩ := g1 z rfl; rfl
    rw [er]
    exact q _ H2 (x1.trans x2) ⟨E2, .bl _⟩
  · refine .inl (sa.use E e1 fun x H1 x1 E1 b1 => sb.use E1 e2 fun y H2 x2 E2 b2 => ?_)
    refine ov_nin _ H2 x y d1 d2 (.d (.bool (!k))) Q (fun b => E2.there) ((b1.keep x2).peek E2 p1) (b2.peek E2 p2) (by dsimp only; rw [eq]; rfl) fun v H3 g vr => ?_
    obtain ⟨x3, rs⟩ := vr.lift (H₀ := H) E2 g (res_start (x1.trans x2))
    exact q v H3 ((x1.trans x2).trans x3) rs

abbrev MO := VE → Option (Option Int × VE)
def SO {ι : Type} (C : Core) (Rs : ι → Rest) (e : Option Expr) (m : MO) : Prop := ∃ t : TO, (∀ i, PO (cx C (Rs i)) e t) ∧
  ∀ (A : AS) (σ : L2.St) (ρ : VE) (H : Hp) (o : Option Int) (ρ' : VE) (Q : Option Int → Hp → Prop), EOk C.K A σ ρ H → m ρ = some (o, ρ') → (∀ H', Ext σ ρ H σ ρ' H' → EOk C.K A σ ρ' H' → Q o H') → t σ H Q
def oN : MO := fun ρ => some (none, ρ)
def intO : D → Option Int | .int i => some i | _ => none
def oS (m : ME) : MO := fun ρ => bnd (m ρ) fun r ρ1 => obd (peek ρ1 r) fun d => obd (intO d) fun i => some (some i, ρ1)
theorem so_none : SO C Rs none oN := ⟨_, fun _ => po_none, fun A σ ρ H o ρ' Q E e q => by
  cases e
  exact q H .refl E⟩
theorem so_some (h : SE C Rs e m) : SO C Rs (some e) (oS m) := by
  obtain ⟨t, p, s⟩ := h
  refine ⟨_, fun i => po_some (p i), fun A σ ρ H o ρ' Q E e q => ?_⟩
  obtain ⟨r, ρ1, e1, e⟩ := bnd_some e
  obtain ⟨d, e2, e⟩ := obd_some e
  obtain ⟨i, e3, e⟩ := obd_some e
  cases e
  refine s.use E e1 fun x H1 x1 E1 b1 => ?_
  cases d with
  | int j => cases e3; exact ⟨i, (b1.peek E1 e2).int, q H1 x1 E1⟩
  | none => cases e3
  | bool _ => cases e3
  | str _ => cases e3
  | list _ => cases e3
  | tuple _ => cases e3
  | dict _ => cases e3
def cutL {α : Type} (xs : List α) (lo hi : Option Int) : List α := (xs.drop (HT.sIx xs.length 0 lo)).take (HT.sIx xs.length xs.length hi - HT.sIx xs.length 0 lo)
def slD (d : D) (lo hi : Option Int) : Option BV := match d with
  | .list ds => some (.new (.list (cutL ds lo hi)))
  | .tuple ds => some (.d (.tuple (cutL ds lo hi)))
  | .str z => if szOk z.length then some (.d (.str (cutS z lo hi))) else none
  | _ => none
def mSl (m : ME) (ml mh : MO) : ME := fun ρ => bnd (m ρ) fun r ρ1 => bnd (ml ρ1) fun lo ρ2 => bnd (mh ρ2) fun hi ρ3 => obd (peek ρ3 r) fun d => obd (slD d lo hi) fun b => some (b, ρ3)
def rSlAll (K : PySem.W.Frag) : V → Option Int → Option Int → Hp → VK → Prop := fun x lo hi H Q => rSlL K x lo hi H Q ∨ (fun x lo hi H Q => rSlA K x lo hi H Q ∨ rSlS x lo hi H Q) x lo hi H Q
theorem RpA.cut {K : PySem.W.Frag} {O : AS} {H : Hp} {vs : List V} {ds : List D} (r : RpA K O H vs ds) (lo hi : Option Int) : RpA K O H (cutV vs lo hi) (cutL ds lo hi) := by
  unfold cutV cutL
  rw [r.length]
  exact (r.drop _).take _
theorem slD_ok {K : PySem.W.Frag} {O : AS} {H : Hp} {x : V} {d : D} {lo hi : Option Int} {b : BV} {Q : VK} (hO : ∀ b, O b → ∃ o, H b = some o) (px : Pk K O H x d) (e : slD d lo hi = some b) (q : ∀ v H', Gr H H' → VRes K O H H' v b → Q v H') : rSlAll K x lo hi H Q := by
  cases d with
  | list ds =>
    cases e
    obtain ⟨a, vs, rfl, h1, r⟩ := px.list
    exact .inl ⟨a, vs, rfl, SqL.of h1, fun p hp => q _ _ (.upd hp) (vnew_lst hp (r.cut lo hi))⟩
  | tuple ds =>
    cases e
    obtain ⟨a, vs, rfl, h1, r, rp⟩ := px.tuple
    refine .inr (.inl ⟨a, vs, rfl, h1, fun hw => ?_, fun _ p hp => q _ _ (.upd hp) (vnew_tup hp hO (r.cut lo hi))⟩)
    have ec : cutL ds lo hi = ds := by
      unfold cutL
      rw [← r.length, hw.1, hw.2, List.drop_zero, Nat.sub_zero, r.length, List.take_length]
    rw [ec] at q
    exact q _ _ .refl rp
  | str z =>
    replace e : (if szOk z.length then some (BV.d (.str (cutS z lo hi))) else none) = some b := e
    split at e
    · rename_i hz
      cases e
      rw [px.str]
      exact .inr (.inr ⟨z, rfl, szOk_le hz, q _ _ .refl (.str _)⟩)
    · cases e
  | none => cases e
  | bool _ => cases e
  | int _ => cases e
  | dict _ => cases e
theorem se_slice {lo hi : Option Expr} {ml mh : MO} {p2 : Pos} (he : SE C Rs e m) (hl : SO C Rs lo ml) (hh : SO C Rs hi mh) : SE C Rs (.Subscript e (.Slice lo hi none p2) pos) (mSl m ml mh) := by
  obtain ⟨t, p, s⟩ := he
  obtain ⟨tl, pl, sl⟩ := hl
  obtain ⟨th, ph, sh⟩ := hh
  refine ⟨tSl (rSlAll C.K) t tl th, fun i => pe_slice (X := cx C (Rs i)) (sl_list.or (sl_tupA.or sl_str)) (p i) (pl i) (ph i), fun A σ ρ H rr ρ' Q E e q => ?_⟩
  obtain ⟨r, ρ1, e1, e⟩ := bnd_some e
  obtain ⟨lo, ρ2, e2, e⟩ := bnd_some e
  obtain ⟨hi, ρ3, e3, e⟩ := bnd_some e
  obtain ⟨d, e4, e⟩ := obd_some e
  obtain ⟨b, eb, e⟩ := obd_some e
  cases e
  refine s.use E e1 fun x H1 x1 E1 b1 => ?_
  refine sl A σ ρ1 H1 lo ρ2 _ E1 e2 fun H2 x2 E2 => ?_
  refine sh A σ ρ2 H2 hi _ _ E2 e3 fun H3 x3 E3 => ?_
  refine slD_ok (fun b => E3.there) (((b1.keep x2).keep x3).peek E3 e4) eb fun v H4 g vr => ?_
  have x13 := (x1.trans x2).trans x3
  obtain ⟨x4, rs⟩ := vr.lift (H₀ := H) E3 g (res_start x13)
  exact q v H4 (x13.trans x4) rs
end
end Nb

namespace Nb
open PySem PySem.Spec PyProof.Rows L2

abbrev MF := List D → Option D
def Prom (K : PySem.W.Frag) (n : Nat) (f : MF) : Sp := fun vs H Q _ => ∃ (A : AS) (ds : List D) (r : D), (∀ b, A b → ∃ o, H b = some o) ∧ RpA K A H vs ds ∧ ds.length = n ∧ f ds = some r ∧ ∀ v H', Gr H H' → Rp K A H' v r → Q v H'
structure FnD (P : Program) (w : World) (K : PySem.W.Frag) (mg : PySem.Str → Option Value) (base : Heap) (k : Nat) (x : PySem.Str) (n : Nat) (f : MF) : Prop where
  ex : ∃ (a : Addr) (fd : FuncData) (ps : List PySem.Str), mg x = some (.ref a) ∧ PySem.W.keepIn K (.ref a) = true ∧ Binds K fd ps [] ∧ FnOk P w K mg base CX0 k a fd ps (Prom K n f)
theorem FnD.mono {P : Program} {w : World} {K : PySem.W.Frag} {mg : PySem.Str → Option Value} {base : Heap} {j k : Nat} {x : PySem.Str} {n : Nat} {f : MF} (h : FnD P w K mg base j x n f) (hj : j ≤ k) : FnD P w K mg base k x n f :=
  let ⟨a, fd, ps, h1, h2, h3, h4⟩ := h.ex
  ⟨a, fd, ps, h1, h2, h3, h4.mono hj⟩
theorem FnD.imp {P : Program} {w : World} {K : PySem.W.Frag} {mg : PySem.Str → Option Value} {base : Heap} {k : Nat} {x : PySem.Str} {n : Nat} {f f' : MF} (h : FnD P w K mg base k x n f) (hf : ∀ ds r, f' ds = some r → f ds = some r) : FnD P w K mg base k x n f' :=
  let ⟨a, fd, ps, h1, h2, h3, h4⟩ := h.ex
  ⟨a, fd, ps, h1, h2, h3, h4.imp fun vs H Q E ⟨A, ds, r, q1, q2, q3, q4, q5⟩ => ⟨A, ds, r, q1, q2, q3, hf _ _ q4, q5⟩⟩
def env0 (n : Nat) (ds : List D) : VE := ds.map (fun d => some (Sl.sh d)) ++ List.replicate (n - ds.length) none
def outD : Option (VE × Fl) → Option D
  | some (_, .rt d) => some d
  | some (_, .nx) => some .none
  | _ => none
def runF (n : Nat) (m : MS) : MF := fun ds => outD (m (env0 n ds))
theorem env0_sh {n i : Nat} {ds : List D} {d : D} (h : (env0 n ds)[i]? = some (some (Sl.sh d))) : ds[i]? = some d := by
  unfold env0 at h
  by_cases hi : i < ds.length
  · rw [List.getElem?_append_left (by simpa using hi), List.getElem?_map] at h
    cases e : ds[i]? with
    | none => rw [e] at h; cases h
    | some x => rw [e] at h; cases h; rfl
  · rw [List.getElem?_append_right (by simpa using hi), List.getElem?_replicate] at h
    split at h <;> cases h
theorem env0_no {n i : Nat} {ds : List D} {s : Sl} (hs : ∀ d, s ≠ .sh d) : (env0 n ds)[i]? ≠ some (some s) := fun h => by
  unfold env0 at h
  by_cases hi : i < ds.length
  · rw [List.getElem?_append_left (by simpa using hi), List.getElem?_map] at h
    cases e : ds[i]? with
    | none => rw [e] at h; cases h
    | some x => rw [e] at h; cases h; exact hs _ rfl
  · rw [List.getElem?_append_right (by simpa using hi), List.getElem?_replicate] at h
    split at h <;> cases h
theorem env0_own {n : Nat} {ds : List D} {σ : L2.St} {b : Addr} : ¬ Own σ (env0 n ds) b := fun ⟨i, m, d, e, _⟩ => env0_no (s := .own m d) (fun _ z => by cases z) e
theorem env0_mown {n : Nat} {ds : List D} {σ : L2.St} {b : Addr} : ¬ MOwn σ (env0 n ds) b := fun h => env0_own h.own
theorem start_get {N : List PySem.Str} {vs : List V} {i : Nat} {v : V} (h : vs[i]? = some v) : (start N vs)[i]? = some (some v) := by
  unfold L2.start
  have hi : i < vs.length := (List.getElem?_eq_some_iff.mp h).1
  rw [List.getElem?_append_left (by simpa using hi), List.getElem?_map, h]
  rfl
theorem eok_start {K : PySem.W.Frag} {A : AS} {H : Hp} {N : List PySem.Str} {vs : List V} {ds : List D} (hA : ∀ b, A b → ∃ o, H b = some o) (r : RpA K A H vs ds) : EOk K A (start N vs) (env0 N.length ds) H := by
  have st : Stay A H (Av A (start N vs) (env0 N.length ds)) H := fun b o e n => ⟨fun z => z.elim n env0_own, .inl e⟩
  refine ⟨by simp [L2.start, env0, r.length], hA, fun i d e => ?_, fun i m d e => absurd e (env0_no fun _ z => by cases z), fun i a e => absurd e (env0_no fun _ z => by cases z), fun i j m n d e a ei => absurd ei (env0_no fun _ z => by cases z)⟩
  obtain ⟨v, hv, rv⟩ := r.get (env0_sh e)
  exact ⟨v, start_get hv, rv.mono st⟩
def restOf (C : Core) (qual : PySem.Str) (scope : Scope) (f : Addr) (cd : Value) (outer : List PySem.Env) (s : Shared) (H : Hp) : Rest where
  s_0 := s
  H_0 := H
  env := envOfC qual scope s.heap.objs.size f cd
  outer := outer
  stack := envOfC qual scope s.heap.objs.size f cd :: outer
  ex := []
  fn := fun _ => true
  pn := []
  xe := fun _ _ => False
theorem fnOk_of {P : Program} {w : World} {K : PySem.W.Frag} {mg : PySem.Str → Option Value} {base : Heap} {x qual : PySem.Str} {st : Stmt} {f : Addr} {fd : FuncData} {N ps : List PySem.Str} {k : Nat} {m : MS} (F : Fun K x qual st f fd) (S : FnScope N ps (defScope st)) (hb : Binds K fd ps []) (hm : mg x = some (.ref f))
    (body : ∀ (cdv : Value) (A : Around) (outer : List PySem.Env) (s : Shared) (H : Hp), Room k A → A.units + 65 < cLine →
      SB (ι := Unit) ⟨P, w, K, mg, base, A, N⟩ (fun _ => restOf ⟨P, w, K, mg, base, A, N⟩ qual (defScope st) f cdv outer s H) (defBody st) m) : FnOk P w K mg base CX0 (k + 1) f fd ps (Prom K ps.length (runF N.length m)) := by
  refine F.ok S (fun vs H Q E h => ?_) fun cdv A outer s H vs Q E hr h => ?_
  · obtain ⟨A, ds, r, _, h2, h3, _⟩ := h
    rw [h2.length, h3]
  · obtain ⟨A', ds, r, hA, h2, h3, h4, q⟩ := h
    obtain ⟨t, p, sn⟩ := body cdv (A.deeper (envOfC qual (defScope st) s.heap.objs.size f cdv)) outer s H hr (by have := hr.un; have := hr.dp; omega)
    refine ⟨t, p (), ?_⟩
    unfold runF at h4
    cases e : m (env0 N.length ds) with
    | none => rw [e] at h4; cases h4
    | some pr =>
      obtain ⟨ρ', fl⟩ := pr
      rw [e] at h4
      refine sn A' (start N vs) (env0 N.length ds) H ρ' fl _ (eok_start hA h2) e fun σ' H' E' x' => ?_
      have gr : Gr H H' := fun b o eb => x'.keep b o eb env0_mown
      have st : Stay (Av A' σ' ρ') H' A' H' := fun b o eb n => ⟨fun z => n (.inl z), .inl eb⟩
      cases fl with
      | nx => cases h4; exact q _ H' gr .non
      | rt d => cases h4; exact fun v rv => q v H' gr (rv.mono st)
      | bk => cases h4
      | ct => cases h4

theorem fnD_of {P : Program} {w : World} {K : PySem.W.Frag} {mg : PySem.Str → Option Value} {base : Heap} {x qual : PySem.Str} {st : Stmt} {f : Addr} {fd : FuncData} {N ps : List PySem.Str} {k : Nat} {m : MS} (F : Fun K x qual st f fd) (S : FnScope N ps (defScope st)) (hb : Binds K fd ps []) (hm : mg x = some (.ref f))
    (body : ∀ (cdv : Value) (A : Around) (outer : List PySem.Env) (s : Shared) (H : Hp), Room k A → A.units + 65 < cLine →
      SB (ι := Unit) ⟨P, w, K, mg, base, A, N⟩ (fun _ => restOf ⟨P, w, K, mg, base, A, N⟩ qual (defScope st) f cdv outer s H) (defBody st) m) : FnD P w K mg base (k + 1) x ps.length (runF N.length m) := ⟨f, fd, ps, hm, F.kp, hb, fnOk_of F S hb hm body⟩
def flat1 : D → Bool
  | .none => true
  | .bool _ => true
  | .int _ => true
  | .str _ => true
  | _ => false
def mApp (f : MF) (ms : MA) : ME := fun ρ => bnd (ms ρ) fun rs ρ1 => obd (peekAll ρ1 rs) fun ds => obd (f ds) fun r => if flat1 r then some (.d r, ρ1) else bnd (frzAll ρ1 rs) fun ds' ρ2 => obd (f ds') fun r' => some (.d r', ρ2)
section
variable {K : PySem.W.Frag} {O : AS} {H : Hp}
theorem Rp.flat {v : V} {d : D} (h : Rp K O H v d) (f : flat1 d = true) {O' : AS} {H' : Hp} : Rp K O' H' v d := by
  cases h with
  | non => exact .non
  | bl b => exact .bl b
  | int i => exact .int i
  | str x => exact .str x
  | lst => cases f
  | tup => cases f
  | tupK => cases f
  | dK => cases f
  | dT => cases f
  | scr => cases f
theorem Pk.rp0 {v : V} {d : D} (h : Pk K O H v d) : Rp K (fun _ => False) H v d := by
  have st : Stay O H (fun _ => False) H := fun b o e n => ⟨fun z => z, .inl e⟩
  rcases h with h | ⟨a, rfl, t⟩
  · exact h.mono st
  · exact (t.mono st fun o e => .inl e).rp fun z => z
theorem PkA.rp0 : ∀ {vs : List V} {ds : List D}, PkA K O H vs ds → RpA K (fun _ => False) H vs ds
  | _, _, .nil => .nil
  | _, _, .cons p t => .cons p.rp0 t.rp0
end
section
variable {ι : Type} {C : Core} {Rs : ι → Rest} {e : Expr} {es : List Expr} {mas : MA} {pos : Pos}
theorem se_app {x : PySem.Str} {p : Pos} {k n : Nat} {f : MF} (F : FnD C.prog C.w C.K C.mg C.base k x n f) (hr : Room k C.A) (ha : SA C Rs (e :: es) mas) (hn : (e :: es).length = n := by rfl) (hg : ∀ i, Gl (cx C (Rs i)) x := by intro _; rfl)
    (hdb : (x == ("__debug__" : PySem.Str)) = false := by decide) (he : ∀ i, starEach (e :: es) (Rs i).env = (false, eval e (Rs i).env) :: starEach es (Rs i).env := by intro _; rfl) (hpl : ∀ i, (backTo pos (starEach es (Rs i).env)).any (·.1) = false := by intro _; rfl)
    (hl : ∀ ρ rs ρ', mas ρ = some (rs, ρ') → rs.length = n) : SE C Rs (.Call (.Name x p) (e :: es) [] pos) (mApp f mas) := by
  obtain ⟨a, fd, ps, hm, hk, hb, G⟩ := F.ex
  obtain ⟨t, pa, s⟩ := ha
  refine ⟨_, fun i => pe_call (X := cx C (Rs i)) G hr (hg i) hm hk hb .nil pass0 (pa i) hdb (he i) (hpl i), fun A σ ρ H rr ρ' Q E e q => ?_⟩
  obtain ⟨rs, ρ1, e1, e⟩ := bnd_some e
  obtain ⟨ds, e2, e⟩ := obd_some e
  obtain ⟨r, er, e⟩ := obd_some e
  have hlr := hl ρ rs ρ1 e1
  refine s A σ ρ H rs ρ1 _ E e1 fun vs H1 x1 E1 b1 => ?_
  have plen : ∀ {rs : List BV} {ds : List D}, peekAll ρ1 rs = some ds → ds.length = rs.length := by
    intro rs
    induction rs with
    | nil => intro ds h; cases h; rfl
    | cons r rs ih =>
      intro ds h
      obtain ⟨d, _, h⟩ := obd_some h
      obtain ⟨ds', h', h⟩ := obd_some h
      cases h
      rw [List.length_cons, List.length_cons, ih h']
  have flen : ∀ {rs : List BV} {ds : List D} {ρ ρ' : VE}, frzAll ρ rs = some (ds, ρ') → ds.length = rs.length := by
    intro rs
    induction rs with
    | nil => intro ds ρ ρ' h; cases h; rfl
    | cons r rs ih =>
      intro ds ρ ρ' h
      obtain ⟨d, ρ2, _, h⟩ := bnd_some h
      obtain ⟨ds', ρ3, h', h⟩ := bnd_some h
      cases h
      rw [List.length_cons, List.length_cons, ih h']
  rw [List.append_nil]
  split at e
  · rename_i hf
    cases e
    refine ⟨fun _ => False, ds, r, fun _ z => z.elim, (b1.peek E1 e2).rp0, by rw [plen e2, hlr], er, fun v H' g rv => ?_⟩
    have x2 : Ext σ ρ' H1 σ ρ' H' := .grow g
    exact q v H' (x1.trans x2) ⟨E1.grow g fun b z => .inl z, rv.flat hf⟩
  · obtain ⟨ds', ρ2, e3, e⟩ := bnd_some e
    obtain ⟨r', er', e⟩ := obd_some e
    cases e
    obtain ⟨E2, x2, r2⟩ := frzAll_ok b1 E1 e3
    refine ⟨Av A σ ρ', ds', r', fun b => E2.there, r2, by rw [flen e3, hlr], er', fun v H' g rv => ?_⟩
    have x3 : Ext σ ρ' H1 σ ρ' H' := .grow g
    exact q v H' ((x1.trans x2).trans x3) ⟨E2.grow g fun b z => .inl z, rv⟩
theorem aCons_len {m : ME} {ms : MA} {n : Nat} (h : ∀ ρ rs ρ', ms ρ = some (rs, ρ') → rs.length = n) : ∀ ρ rs ρ', aCons m ms ρ = some (rs, ρ') → rs.length = n + 1 := fun ρ rs ρ' e => by
  obtain ⟨r, ρ1, _, e⟩ := bnd_some e
  obtain ⟨rs', ρ2, e2, e⟩ := bnd_some e
  cases e
  rw [List.length_cons, h _ _ _ e2]
theorem aNil_len : ∀ ρ rs ρ', aNil ρ = some (rs, ρ') → rs.length = 0 := fun ρ rs ρ' e => by cases e; rfl
end
end Nb

namespace Nb
open PySem PySem.Spec PyProof.Rows L2

abbrev MFio := List D → Option (D × List D)
def slOf (b : Bool) (d : D) : Option Sl := if b then some (Sl.own .io d) else some (Sl.sh d)
def envIO (n : Nat) (io : List Bool) (ds : List D) : VE := (io.zip ds).map (fun p => slOf p.1 p.2) ++ List.replicate (n - ds.length) none
def ioD : Option (Option Sl) → Option D
  | some (some (Sl.own .io d)) => some d
  | _ => none
def outsIO (ρ : VE) : Nat → List Bool → Option (List D)
  | _, [] => some []
  | i, true :: io => obd (ioD ρ[i]?) fun d => obd (outsIO ρ (i + 1) io) fun ds => some (d :: ds)
  | i, false :: io => obd (outsIO ρ (i + 1) io) fun ds => some (.none :: ds)
theorem outsIO_at {ρ : VE} : ∀ {io : List Bool} {i : Nat} {os : List D}, outsIO ρ i io = some os → ∀ j, io[j]? = some true → ∃ d, os[j]? = some d ∧ ioD ρ[i + j]? = some d
  | [], _, _, _, j, h => by cases h
  | true :: io, i, os, e, j, h => by
    obtain ⟨d, e1, e⟩ := obd_some e
    obtain ⟨ds, e2, e⟩ := obd_some e
    cases e
    cases j with
    | zero => exact ⟨d, rfl, e1⟩
    | succ j =>
      obtain ⟨d', h1, h2⟩ := outsIO_at e2 j h
      exact ⟨d', h1, by rw [show i + (j + 1) = i + 1 + j by omega]; exact h2⟩
  | false :: io, i, os, e, j, h => by
    obtain ⟨ds, e2, e⟩ := obd_some e
    cases e
    cases j with
    | zero => cases h
    | succ j =>
      obtain ⟨d', h1, h2⟩ := outsIO_at e2 j h
      exact ⟨d', h1, by rw [show i + (j + 1) = i + 1 + j by omega]; exact h2⟩
def runIO (n : Nat) (io : List Bool) (m : MS) : MFio := fun ds => match m (envIO n io ds) with
  | some (ρ', .rt d) => obd (outsIO ρ' 0 io) fun os => some (d, os)
  | some (ρ', .nx) => obd (outsIO ρ' 0 io) fun os => some (.none, os)
  | _ => none
def IOp (io : List Bool) (vs : List V) (a : Addr) : Prop := ∃ i : Nat, io[i]? = some true ∧ vs[i]? = some (V.ref a)
def PromIO (K : PySem.W.Frag) (N : List PySem.Str) (io : List Bool) (f : MFio) : Sp := fun vs H Q _ => ∃ (A : AS) (ds : List D) (r : D) (os : List D), vs.length = io.length ∧ ds.length = io.length ∧
  EOk K A (L2.start N vs) (envIO N.length io ds) H ∧ f ds = some (r, os) ∧
  ∀ (v : V) (H' : Hp) (O' : AS), (∀ b o, H b = some o → ¬ IOp io vs b → H' b = some o) → (∀ b o, H b = some o → ∃ o', H' b = some o') → (∀ b, A b → O' b) → (∀ b, IOp io vs b → O' b) → Rp K O' H' v r →
    (∀ (i : Nat) (a : Addr), io[i]? = some true → vs[i]? = some (V.ref a) → ∃ d, os[i]? = some d ∧ Top K O' H' a d ∧ NoFrz H' a) → Q v H'
structure FnIO (P : Program) (w : World) (K : PySem.W.Frag) (mg : PySem.Str → Option Value) (base : Heap) (k : Nat) (x : PySem.Str) (N : List PySem.Str) (io : List Bool) (f : MFio) : Prop where
  ex : ∃ (a : Addr) (fd : FuncData) (ps : List PySem.Str), mg x = some (.ref a) ∧ PySem.W.keepIn K (.ref a) = true ∧ Binds K fd ps [] ∧ FnOk P w K mg base CX0 k a fd ps (PromIO K N io f)
theorem FnIO.mono {P : Program} {w : World} {K : PySem.W.Frag} {mg : PySem.Str → Option Value} {base : Heap} {j k : Nat} {x : PySem.Str} {N : List PySem.Str} {io : List Bool} {f : MFio} (h : FnIO P w K mg base j x N io f) (hj : j ≤ k) : FnIO P w K mg base k x N io f :=
  let ⟨a, fd, ps, h1, h2, h3, h4⟩ := h.ex
  ⟨a, fd, ps, h1, h2, h3, h4.mono hj⟩
theorem FnIO.imp {P : Program} {w : World} {K : PySem.W.Frag} {mg : PySem.Str → Option Value} {base : Heap} {k : Nat} {x : PySem.Str} {N : List PySem.Str} {io : List Bool} {f f' : MFio} (h : FnIO P w K mg base k x N io f) (hf : ∀ ds r, f' ds = some r → f ds = some r) : FnIO P w K mg base k x N io f' :=
  let ⟨a, fd, ps, h1, h2, h3, h4⟩ := h.ex
  ⟨a, fd, ps, h1, h2, h3, h4.imp fun vs H Q E ⟨A, ds, r, os, q1, q2, q3, q4, q5⟩ => ⟨A, ds, r, os, q1, q2, q3, hf _ _ q4, q5⟩⟩

section
variable {K : PySem.W.Frag} {A : AS} {H : Hp}
theorem envIO_get {n i : Nat} {io : List Bool} {ds : List D} {s : Sl} (hl : ds.length = io.length) (h : (envIO n io ds)[i]? = some (some s)) : ∃ b d, io[i]? = some b ∧ ds[i]? = some d ∧ slOf b d = some s := by
  unfold envIO at h
  by_cases hi : i < (io.zip ds).length
  · rw [List.getElem?_append_left (by simpa using hi), List.getElem?_map] at h
    cases e : (io.zip ds)[i]? with
    | none => rw [e] at h; cases h
    | some p =>
      rw [e] at h
      obtain ⟨b, d⟩ := p
      rw [List.getElem?_zip_eq_some] at e
      exact ⟨b, d, e.1, e.2, Option.some.inj h⟩
  · rw [List.getElem?_append_right (by simpa using hi), List.getElem?_replicate] at h
    split at h <;> cases h
theorem envIO_at {n i : Nat} {io : List Bool} {ds : List D} {b : Bool} {d : D} (h1 : io[i]? = some b) (h2 : ds[i]? = some d) : (envIO n io ds)[i]? = some (slOf b d) := by
  unfold envIO
  have e : (io.zip ds)[i]? = some (b, d) := List.getElem?_zip_eq_some.mpr ⟨h1, h2⟩
  have hi : i < (io.zip ds).length := (List.getElem?_eq_some_iff.mp e).1
  rw [List.getElem?_append_left (by simpa using hi), List.getElem?_map, e]
  rfl
theorem envIO_own {n i : Nat} {io : List Bool} {ds : List D} {m : Md} {d : D} (hl : ds.length = io.length) (h : (envIO n io ds)[i]? = some (some (Sl.own m d))) : m = .io ∧ io[i]? = some true ∧ ds[i]? = some d := by
  obtain ⟨b, d', h1, h2, h3⟩ := envIO_get hl h
  cases b with
  | true => cases h3; exact ⟨rfl, h1, h2⟩
  | false => cases h3
theorem own_IOp {N : List PySem.Str} {io : List Bool} {vs : List V} {ds : List D} {a : Addr} (hl : ds.length = io.length) (hv : vs.length = io.length) : Own (L2.start N vs) (envIO N.length io ds) a → IOp io vs a := fun ⟨i, m, d, e, s⟩ => by
  obtain ⟨_, h1, _⟩ := envIO_own hl e
  have hi : i < vs.length := by rw [hv]; exact (List.getElem?_eq_some_iff.mp h1).1
  rw [start_get (List.getElem?_eq_getElem hi)] at s
  injection s with s
  injection s with s
  exact ⟨i, h1, by rw [List.getElem?_eq_getElem hi, s]⟩
theorem fnIO_of {P : Program} {w : World} {mg : PySem.Str → Option Value} {base : Heap} {x qual : PySem.Str} {st : Stmt} {f : Addr} {fd : FuncData} {N ps : List PySem.Str} {io : List Bool} {k : Nat} {m : MS} (F : Fun K x qual st f fd) (S : FnScope N ps (defScope st)) (hb : Binds K fd ps []) (hm : mg x = some (.ref f)) (hio : io.length = ps.length)
    (body : ∀ (cdv : Value) (A : Around) (outer : List PySem.Env) (s : Shared) (H : Hp), Room k A → A.units + 65 < cLine →
      SB (ι := Unit) ⟨P, w, K, mg, base, A, N⟩ (fun _ => restOf ⟨P, w, K, mg, base, A, N⟩ qual (defScope st) f cdv outer s H) (defBody st) m) : FnIO P w K mg base (k + 1) x N io (runIO N.length io m) := by
  refine ⟨f, fd, ps, hm, F.kp, hb, F.ok S (fun vs H Q E h => ?_) fun cdv A outer s H vs Q E hr h => ?_⟩
  · obtain ⟨A, ds, r, os, h1, h2, _⟩ := h
    rw [h1, hio]
  · obtain ⟨A', ds, r, os, hv, hl, E0, h4, q⟩ := h
    obtain ⟨t, p, sn⟩ := body cdv (A.deeper (envOfC qual (defScope st) s.heap.objs.size f cdv)) outer s H hr (by have := hr.un; have := hr.dp; omega)
    refine ⟨t, p (), ?_⟩
    have fin : ∀ {σ' : L2.St} {H' : Hp} {ρ' : VE} {v : V}, EOk K A' σ' ρ' H' → Ext (L2.start N vs) (envIO N.length io ds) H σ' ρ' H' → outsIO ρ' 0 io = some os → Rp K (Av A' σ' ρ') H' v r → Q v H' := fun {σ' H' ρ' v} E' x' ho rv => by
      have io' : ∀ (i : Nat) (a : Addr), io[i]? = some true → vs[i]? = some (V.ref a) → ∃ d, os[i]? = some d ∧ ρ'[i]? = some (some (Sl.own .io d)) ∧ σ'[i]? = some (some (V.ref a)) := fun i a h1 h2 => by
        obtain ⟨d, hd1, hd2⟩ := outsIO_at ho i h1
        rw [Nat.zero_add] at hd2
        obtain ⟨d0, hd0⟩ : ∃ d0, ds[i]? = some d0 := ⟨_, List.getElem?_eq_getElem (by rw [hl]; exact (List.getElem?_eq_some_iff.mp h1).1)⟩
        obtain ⟨d', e', s'⟩ := x'.io i d0 (envIO_at h1 hd0)
        rw [e'] at hd2
        cases hd2
        exact ⟨d, hd1, e', by rw [s']; exact start_get h2⟩
      refine q v H' (Av A' σ' ρ') (fun b o e n => x'.keep b o e fun z => n (own_IOp hl hv z.own)) x'.there (fun b z => .inl z) (fun b ⟨i, h1, h2⟩ => ?_) rv fun i a h1 h2 => ?_
      · obtain ⟨d, _, e, s⟩ := io' i b h1 h2
        exact .inr ⟨i, .io, d, e, s⟩
      · obtain ⟨d, hd, e, s⟩ := io' i a h1 h2
        obtain ⟨a', ea, t, _, nf⟩ := E'.own i .io d e
        rw [s] at ea
        cases ea
        exact ⟨d, hd, t, nf (by decide)⟩
    unfold runIO at h4
    cases e : m (envIO N.length io ds) with
    | none => rw [e] at h4; cases h4
    | some pr =>
      obtain ⟨ρ', fl⟩ := pr
      rw [e] at h4
      refine sn A' (L2.start N vs) (envIO N.length io ds) H ρ' fl _ E0 e fun σ' H' E' x' => ?_
      cases fl with
      | nx =>
        obtain ⟨os', eo, h4⟩ := obd_some h4
        cases h4
        exact fin E' x' eo .non
      | rt d =>
        obtain ⟨os', eo, h4⟩ := obd_some h4
        cases h4
        exact fun v rv => fin E' x' eo rv
      | bk => cases h4
      | ct => cases h4
end

def ownD : Option (Option Sl) → Option D
  | some (some (Sl.own .ow d)) => some d
  | some (some (Sl.own .io d)) => some d
  | _ => none
def prepIO : List Bool → VE → List BV → Option (List D × VE)
  | [], ρ, [] => some ([], ρ)
  | true :: io, ρ, .own s :: rs => bnd (prepIO io ρ rs) fun ds ρ' => obd (ownD ρ'[s]?) fun d => some (d :: ds, ρ')
  | false :: io, ρ, r :: rs => bnd (frz ρ r) fun d ρ1 => bnd (prepIO io ρ1 rs) fun ds ρ2 => some (d :: ds, ρ2)
  | _, _, _ => none
def slotsIO : List Bool → List BV → List Nat
  | true :: io, .own s :: rs => s :: slotsIO io rs
  | _ :: io, _ :: rs => slotsIO io rs
  | _, _ => []
def putS (ρ : VE) (s : Nat) (d : D) : Option VE := match ρ[s]? with
  | some (some (Sl.own m _)) => some (ρ.set s (some (Sl.own m d)))
  | _ => none
def putIO : List Bool → List BV → List D → VE → Option VE
  | true :: io, .own s :: rs, d :: os, ρ => obd (putS ρ s d) fun ρ1 => putIO io rs os ρ1
  | false :: io, _ :: rs, _ :: os, ρ => putIO io rs os ρ
  | [], [], [], ρ => some ρ
  | _, _, _, _ => none
def mAppIO (io : List Bool) (f : MFio) (ms : MA) : ME := fun ρ => bnd (ms ρ) fun rs ρ1 => bnd (prepIO io ρ1 rs) fun ds ρ2 => if (slotsIO io rs).Nodup then
  (match f ds with | some (r, os) => obd (putIO io rs os ρ2) fun ρ3 => some (.d r, ρ3) | none => none) else none
inductive PrepA (K : PySem.W.Frag) (A : AS) (σ : L2.St) (ρ : VE) (H : Hp) : List Bool → List V → List BV → List D → Prop
  | nil : PrepA K A σ ρ H [] [] [] []
  | io {io : List Bool} {vs : List V} {rs : List BV} {ds : List D} {a : Addr} {s : Nat} {m : Md} {d : D} : σ[s]? = some (some (V.ref a)) → ρ[s]? = some (some (Sl.own m d)) → m ≠ .lk → PrepA K A σ ρ H io vs rs ds → PrepA K A σ ρ H (true :: io) (.ref a :: vs) (.own s :: rs) (d :: ds)
  | sh {io : List Bool} {vs : List V} {rs : List BV} {ds : List D} {v : V} {r : BV} {d : D} : Rp K (Av A σ ρ) H v d → PrepA K A σ ρ H io vs rs ds → PrepA K A σ ρ H (false :: io) (v :: vs) (r :: rs) (d :: ds)
section
variable {K : PySem.W.Frag} {A : AS} {σ : L2.St} {ρ ρ2 ρ3 : VE} {H H' : Hp}
theorem ownD_some {ρ : VE} {s : Nat} {d : D} (h : ownD ρ[s]? = some d) : ∃ m, m ≠ .lk ∧ ρ[s]? = some (some (Sl.own m d)) := by
  unfold ownD at h
  split at h
  · rename_i e
    cases h
    exact ⟨.ow, by decide, e⟩
  · rename_i e
    cases h
    exact ⟨.io, by decide, e⟩
  · cases h
theorem prepIO_ok : ∀ {io : List Bool} {rs : List BV} {vs : List V} {ds : List D} {ρ ρ2 : VE}, BRA K A σ ρ H vs rs → EOk K A σ ρ H → prepIO io ρ rs = some (ds, ρ2) → EOk K A σ ρ2 H ∧ Ext σ ρ H σ ρ2 H ∧ PrepA K A σ ρ2 H io vs rs ds
  | [], [], _, _, _, _, b, E, e => by
    cases b
    cases e
    exact ⟨E, .refl, .nil⟩
  | [], _ :: _, _, _, _, _, b, E, e => by cases e
  | true :: io, [], _, _, _, _, b, E, e => by cases e
  | false :: io, [], _, _, _, _, b, E, e => by cases e
  | true :: io, .d _ :: _, _, _, _, _, b, E, e => by cases e
  | true :: io, .new _ :: _, _, _, _, _, b, E, e => by cases e
  | true :: io, .fn _ :: _, _, _, _, _, b, E, e => by cases e
  | true :: io, .own s :: rs, _, _, _, _, b, E, e => by
    cases b with
    | cons b1 b2 =>
      obtain ⟨ds, ρ', e1, e⟩ := bnd_some e
      obtain ⟨d, e2, e⟩ := obd_some e
      cases e
      obtain ⟨E2, x2, p⟩ := prepIO_ok b2 E e1
      obtain ⟨m, hm, es⟩ := ownD_some e2
      obtain ⟨a, ea, _⟩ := E2.own s m d es
      have b1' : σ[s]? = _ := b1
      rw [b1'] at ea
      cases ea
      exact ⟨E2, x2, .io b1' es hm p⟩
  | false :: io, r :: rs, _, _, _, _, b, E, e => by
    cases b with
    | cons b1 b2 =>
      obtain ⟨d, ρ1, e1, e⟩ := bnd_some e
      obtain ⟨ds, ρ', e2, e⟩ := bnd_some e
      cases e
      obtain ⟨E1, x1, p1⟩ := frz_ok b1 E e1
      obtain ⟨E2, x2, p⟩ := prepIO_ok (b2.keep x1) E1 e2
      exact ⟨E2, x1.trans x2, .sh (x2.rp p1) p⟩
theorem PrepA.len : ∀ {io : List Bool} {vs : List V} {rs : List BV} {ds : List D}, PrepA K A σ ρ H io vs rs ds → vs.length = io.length ∧ ds.length = io.length ∧ rs.length = io.length
  | _, _, _, _, .nil => ⟨rfl, rfl, rfl⟩
  | _, _, _, _, .io _ _ _ p => by obtain ⟨h1, h2, h3⟩ := p.len; exact ⟨congrArg (· + 1) h1, congrArg (· + 1) h2, congrArg (· + 1) h3⟩
  | _, _, _, _, .sh _ p => by obtain ⟨h1, h2, h3⟩ := p.len; exact ⟨congrArg (· + 1) h1, congrArg (· + 1) h2, congrArg (· + 1) h3⟩
theorem PrepA.atIO : ∀ {io : List Bool} {vs : List V} {rs : List BV} {ds : List D} {i : Nat}, PrepA K A σ ρ H io vs rs ds → io[i]? = some true →
    ∃ a s m d, vs[i]? = some (V.ref a) ∧ rs[i]? = some (BV.own s) ∧ ds[i]? = some d ∧ σ[s]? = some (some (V.ref a)) ∧ ρ[s]? = some (some (Sl.own m d)) ∧ m ≠ .lk ∧ s ∈ slotsIO io rs
  | _, _, _, _, _, .nil, h => by cases h
  | _, _, _, _, 0, .io h1 h2 h3 p, _ => ⟨_, _, _, _, rfl, rfl, rfl, h1, h2, h3, List.mem_cons_self⟩
  | _, _, _, _, i + 1, .io h1 h2 h3 p, h => by
    obtain ⟨a, s, m, d, q1, q2, q3, q4, q5, q6, q7⟩ := p.atIO (i := i) h
    exact ⟨a, s, m, d, q1, q2, q3, q4, q5, q6, List.mem_cons_of_mem _ q7⟩
  | _, _, _, _, 0, .sh h1 p, h => by cases h
  | _, _, _, _, i + 1, .sh (r := r) h1 p, h => by
    obtain ⟨a, s, m, d, q1, q2, q3, q4, q5, q6, q7⟩ := p.atIO (i := i) h
    exact ⟨a, s, m, d, q1, q2, q3, q4, q5, q6, q7⟩
theorem PrepA.atSh : ∀ {io : List Bool} {vs : List V} {rs : List BV} {ds : List D} {i : Nat}, PrepA K A σ ρ H io vs rs ds → io[i]? = some false → ∃ v d, vs[i]? = some v ∧ ds[i]? = some d ∧ Rp K (Av A σ ρ) H v d
  | _, _, _, _, _, .nil, h => by cases h
  | _, _, _, _, 0, .io h1 h2 h3 p, h => by cases h
  | _, _, _, _, i + 1, .io h1 h2 h3 p, h => p.atSh (i := i) h
  | _, _, _, _, 0, .sh h1 p, h => ⟨_, _, rfl, rfl, h1⟩
  | _, _, _, _, i + 1, .sh h1 p, h => p.atSh (i := i) h
theorem PrepA.slot : ∀ {io : List Bool} {vs : List V} {rs : List BV} {ds : List D} {s : Nat}, PrepA K A σ ρ H io vs rs ds → s ∈ slotsIO io rs → ∃ i : Nat, io[i]? = some true ∧ rs[i]? = some (BV.own s)
  | _, _, _, _, _, .nil, h => by cases h
  | _, _, _, _, s, .io (s := s') h1 h2 h3 p, h => by
    rcases List.mem_cons.mp h with rfl | h
    · exact ⟨0, rfl, rfl⟩
    · obtain ⟨i, q1, q2⟩ := p.slot h
      exact ⟨i + 1, q1, q2⟩
  | _, _, _, _, s, .sh h1 p, h => by
    obtain ⟨i, q1, q2⟩ := p.slot (s := s) h
    exact ⟨i + 1, q1, q2⟩
theorem PrepA.inj : ∀ {io : List Bool} {vs : List V} {rs : List BV} {ds : List D} {i j s : Nat}, PrepA K A σ ρ H io vs rs ds → (slotsIO io rs).Nodup → io[i]? = some true → io[j]? = some true → rs[i]? = some (BV.own s) → rs[j]? = some (BV.own s) → i = j
  | _, _, _, _, _, _, _, .nil, _, h, _, _, _ => by cases h
  | _, _, _, _, 0, 0, _, .io _ _ _ p, _, _, _, _, _ => rfl
  | _, _, _, _, 0, j + 1, s, .io _ _ _ p, n, _, h2, h3, h4 => by
    cases h3
    obtain ⟨a, s', m, d, _, q2, _, _, _, _, q7⟩ := p.atIO (i := j) h2
    rw [List.getElem?_cons_succ, q2] at h4
    cases h4
    exact absurd q7 (List.nodup_cons.mp n).1
  | _, _, _, _, i + 1, 0, s, .io _ _ _ p, n, h1, _, h3, h4 => by
    cases h4
    obtain ⟨a, s', m, d, _, q2, _, _, _, _, q7⟩ := p.atIO (i := i) h1
    rw [List.getElem?_cons_succ, q2] at h3
    cases h3
    exact absurd q7 (List.nodup_cons.mp n).1
  | _, _, _, _, i + 1, j + 1, s, .io _ _ _ p, n, h1, h2, h3, h4 => congrArg (· + 1) (p.inj (i := i) (j := j) (List.nodup_cons.mp n).2 h1 h2 h3 h4)
  | _, _, _, _, 0, _, _, .sh _ p, _, h, _, _, _ => by cases h
  | _, _, _, _, _, 0, _, .sh _ p, _, _, h, _, _ => by cases h
  | _, _, _, _, i + 1, j + 1, s, .sh _ p, n, h1, h2, h3, h4 => congrArg (· + 1) (p.inj (i := i) (j := j) n h1 h2 h3 h4)
theorem prep_start {N : List PySem.Str} {io : List Bool} {vs : List V} {rs : List BV} {ds : List D} (p : PrepA K A σ ρ H io vs rs ds) (n : (slotsIO io rs).Nodup) (E : EOk K A σ ρ H) :
    EOk K (fun b => Av A σ ρ b ∧ ¬ IOp io vs b) (L2.start N vs) (envIO N.length io ds) H := by
  obtain ⟨hv, hl, _⟩ := p.len
  have op : ∀ b, IOp io vs b → Own σ ρ b := fun b ⟨i, h1, h2⟩ => by
    obtain ⟨a, s, m, d, q1, q2, q3, q4, q5, q6, q7⟩ := p.atIO h1
    rw [h2] at q1
    cases q1
    exact ⟨s, m, d, q5, q4⟩
  have st : Stay (Av A σ ρ) H (Av (fun b => Av A σ ρ b ∧ ¬ IOp io vs b) (L2.start N vs) (envIO N.length io ds)) H := fun b o e nb => ⟨fun z => by
    rcases z with z | z
    · exact nb z.1
    · exact nb (.inr (op b (own_IOp hl hv z))), .inl e⟩
  refine ⟨?_, fun b z => E.there z.1, fun i d e => ?_, fun i m d e => ?_, fun i a e => ?_, fun i j m m' d d' a ei ej si sj => ?_⟩
  · unfold L2.start envIO
    simp [List.length_zip, hl, hv]
  · obtain ⟨b, d', h1, h2, h3⟩ := envIO_get hl e
    cases b with
    | true => cases h3
    | false =>
      cases h3
      obtain ⟨v, d', q1, q2, q3⟩ := p.atSh h1
      rw [h2] at q2
      cases q2
      exact ⟨v, start_get q1, q3.mono st⟩
  · obtain ⟨rfl, h1, h2⟩ := envIO_own hl e
    obtain ⟨a, s, m, d', q1, q2, q3, q4, q5, q6, q7⟩ := p.atIO h1
    rw [h2] at q3
    cases q3
    obtain ⟨a', ea, t, na, nf⟩ := E.own s m d q5
    rw [q4] at ea
    cases ea
    exact ⟨a, start_get q1, t.mono st fun o e => .inl e, fun z => z.2 ⟨i, h1, q1⟩, fun _ => nf q6⟩
  · obtain ⟨b, d', h1, h2, h3⟩ := envIO_get hl e
    cases b <;> cases h3
  · obtain ⟨rfl, h1, h2⟩ := envIO_own hl ei
    obtain ⟨rfl, h3, h4⟩ := envIO_own hl ej
    obtain ⟨a1, s1, m1, d1, q1, q2, q3, q4, q5, q6, q7⟩ := p.atIO h1
    obtain ⟨a2, s2, m2, d2, r1, r2, r3, r4, r5, r6, r7⟩ := p.atIO h3
    rw [start_get q1] at si
    rw [start_get r1] at sj
    cases si
    cases sj
    have es : s1 = s2 := E.inj s1 s2 m1 m2 d1 d2 a q5 r5 q4 r4
    subst es
    exact p.inj n h1 h3 q2 r2
theorem putS_spec {s j : Nat} {d : D} (h : putS ρ s d = some ρ2) : (∃ m d0, ρ[s]? = some (some (Sl.own m d0)) ∧ ρ2[s]? = some (some (Sl.own m d))) ∧ (j ≠ s → ρ2[j]? = ρ[j]?) ∧ ρ2.length = ρ.length := by
  unfold putS at h
  split at h
  · rename_i m d0 e
    cases h
    have hs : s < ρ.length := (List.getElem?_eq_some_iff.mp e).1
    exact ⟨⟨m, d0, e, List.getElem?_set_self hs⟩, fun hj => List.getElem?_set_ne (Ne.symm hj), by simp⟩
  · cases h
theorem putIO_spec : ∀ {io : List Bool} {rs : List BV} {os : List D} {ρ ρ3 : VE}, putIO io rs os ρ = some ρ3 → (slotsIO io rs).Nodup →
    (∀ j, j ∉ slotsIO io rs → ρ3[j]? = ρ[j]?) ∧ (∀ (i s : Nat), io[i]? = some true → rs[i]? = some (BV.own s) → ∃ m d x, ρ[s]? = some (some (Sl.own m d)) ∧ os[i]? = some x ∧ ρ3[s]? = some (some (Sl.own m x))) ∧ ρ3.length = ρ.length
  | [], [], [], _, _, e, _ => by
    cases e
    exact ⟨fun j _ => rfl, (fun i s h => by cases h), rfl⟩
  | [], [], _ :: _, _, _, e, _ => by cases e
  | [], _ :: _, _, _, _, e, _ => by cases e
  | true :: io, [], _, _, _, e, _ => by cases e
  | false :: io, [], _, _, _, e, _ => by cases e
  | true :: io, .d _ :: _, _, _, _, e, _ => by cases e
  | true :: io, .new _ :: _, _, _, _, e, _ => by cases e
  | true :: io, .fn _ :: _, _, _, _, e, _ => by cases e
  | true :: io, .own s :: rs, [], _, _, e, _ => by cases e
  | false :: io, r :: rs, [], _, _, e, _ => by cases e
  | true :: io, .own s :: rs, d :: os, ρ, ρ3, e, n => by
    obtain ⟨ρ1, e1, e2⟩ := obd_some (x := putS ρ s d) e
    obtain ⟨n1, n2⟩ := List.nodup_cons.mp (show (s :: slotsIO io rs).Nodup from n)
    obtain ⟨f1, f2, f3⟩ := putIO_spec e2 n2
    refine ⟨fun j hj => ?_, fun i s' h1 h2 => ?_, f3.trans (putS_spec (j := 0) e1).2.2⟩
    · have hj' : j ∉ s :: slotsIO io rs := hj
      rw [f1 j fun z => hj' (List.mem_cons_of_mem _ z)]
      exact (putS_spec (j := j) e1).2.1 fun z => hj' (by rw [z]; exact List.mem_cons_self)
    · cases i with
      | zero =>
        cases h2
        obtain ⟨m, d0, g1, g2⟩ := (putS_spec (j := 0) e1).1
        exact ⟨m, d0, d, g1, rfl, by rw [f1 _ n1]; exact g2⟩
      | succ i =>
        obtain ⟨m, d0, x, g1, g2, g3⟩ := f2 i s' h1 h2
        have hne : s' ≠ s := fun z => by
          subst z
          exact n1 (slots_mem h1 h2)
        rw [(putS_spec (j := s') e1).2.1 hne] at g1
        exact ⟨m, d0, x, g1, g2, g3⟩
  | false :: io, r :: rs, d :: os, ρ, ρ3, e, n => by
    have n' : (slotsIO io rs).Nodup := by cases r <;> exact n
    have e' : putIO io rs os ρ = some ρ3 := by cases r <;> exact e
    have sl : slotsIO (false :: io) (r :: rs) = slotsIO io rs := by cases r <;> rfl
    obtain ⟨f1, f2, f3⟩ := putIO_spec e' n'
    refine ⟨fun j hj => f1 j (by rw [sl] at hj; exact hj), fun i s' h1 h2 => ?_, f3⟩
    cases i with
    | zero => cases h1
    | succ i => exact f2 i s' h1 h2
where
  slots_mem : ∀ {io : List Bool} {rs : List BV} {i s : Nat}, io[i]? = some true → rs[i]? = some (BV.own s) → s ∈ slotsIO io rs
  | [], _, _, _, h, _ => by cases h
  | _ :: _, [], _, _, _, h => by cases h
  | true :: io, r :: rs, 0, s, _, h => by cases h; exact List.mem_cons_self
  | false :: io, r :: rs, 0, s, h, _ => by cases h
  | b :: io, r :: rs, i + 1, s, h1, h2 => by
    have ih := slots_mem (io := io) (rs := rs) (i := i) (s := s) h1 h2
    cases b <;> cases r <;> first | exact ih | exact List.mem_cons_of_mem _ ih
theorem call_back {io : List Bool} {vs : List V} {rs : List BV} {ds os : List D} {O' : AS} (p : PrepA K A σ ρ H io vs rs ds) (n : (slotsIO io rs).Nodup) (E : EOk K A σ ρ H) (e : putIO io rs os ρ = some ρ3)
    (keep : ∀ b o, H b = some o → ¬ IOp io vs b → H' b = some o) (there : ∀ b o, H b = some o → ∃ o', H' b = some o') (hO : ∀ b, Av A σ ρ b → O' b)
    (tops : ∀ (i : Nat) (a : Addr), io[i]? = some true → vs[i]? = some (V.ref a) → ∃ d, os[i]? = some d ∧ Top K O' H' a d ∧ NoFrz H' a) : EOk K A σ ρ3 H' ∧ Ext σ ρ H σ ρ3 H' ∧ ∀ b, Av A σ ρ3 b → Av A σ ρ b := by
  obtain ⟨f1, f2, f3⟩ := putIO_spec e n
  have op : ∀ b, IOp io vs b → Own σ ρ b ∧ ∃ s ∈ slotsIO io rs, σ[s]? = some (some (V.ref b)) ∧ ∃ m d, m ≠ .lk ∧ ρ[s]? = some (some (Sl.own m d)) := fun b ⟨i, h1, h2⟩ => by
    obtain ⟨a, s, m, d, q1, q2, q3, q4, q5, q6, q7⟩ := p.atIO h1
    rw [h2] at q1
    cases q1
    exact ⟨⟨s, m, d, q5, q4⟩, s, q7, q4, m, d, q6, q5⟩
  -- a slot behind
  have back : ∀ j sl, ρ3[j]? = some (some sl) → (ρ[j]? = some (some sl) ∧ j ∉ slotsIO io rs) ∨ ∃ i m d x a, io[i]? = some true ∧ vs[i]? = some (V.ref a) ∧ rs[i]? = some (BV.own j) ∧ m ≠ Md.lk ∧ ρ[j]? = some (some (Sl.own m d)) ∧ os[i]? = some x ∧ sl = Sl.own m x ∧ σ[j]? = some (some (V.ref a)) := fun j sl ej => by
    by_cases hj : j ∈ slotsIO io rs
    · obtain ⟨i, h1, h2⟩ := p.slot hj
      obtain ⟨m, d, x, g1, g2, g3⟩ := f2 i j h1 h2
      obtain ⟨a, s, m', d', q1, q2, q3, q4, q5, q6, q7⟩ := p.atIO h1
      rw [h2] at q2
      cases q2
      rw [g1] at q5
      cases q5
      rw [g3] at ej
      cases ej
      exact .inr ⟨i, m, d, x, a, h1, q1, h2, q6, g1, g2, rfl, q4⟩
    · rw [f1 j hj] at ej
      exact .inl ⟨ej, hj⟩
  have own : ∀ b, Own σ ρ3 b → Own σ ρ b := fun b ⟨j, m, d, ej, sj⟩ => by
    rcases back j _ ej with ⟨e', _⟩ | ⟨i, m', d', x, a, _, _, _, _, e', _, _, _⟩
    · exact ⟨j, m, d, e', sj⟩
    · exact ⟨j, m', d', e', sj⟩
  have av : ∀ b, Av A σ ρ3 b → Av A σ ρ b := fun b z => z.elim .inl fun z => .inr (own b z)
  have st : Stay (Av A σ ρ) H (Av A σ ρ3) H' := fun b o eb nb => ⟨fun z => nb (av b z), .inl (keep b o eb fun z => nb (.inr (op b z).1))⟩
  have st2 : Stay O' H' (Av A σ ρ3) H' := fun b o eb nb => ⟨fun z => nb (hO b (av b z)), .inl eb⟩
  refine ⟨⟨by rw [E.len, f3], fun b z => (let ⟨o, eo⟩ := E.dom b z; there b o eo), fun j d ej => ?_, fun j m d ej => ?_, fun j a ej => ?_, fun i j m m' d d' a ei ej si sj => ?_⟩, ⟨fun b o eb nb => keep b o eb fun z => nb ?_, there, fun b z => .inl (own b z), fun b z => ?_, fun j d ej => ?_⟩, av⟩
  · rcases back j _ ej with ⟨e', _⟩ | ⟨i, m', d', x, a, _, _, _, _, _, _, e', _⟩
    · obtain ⟨v, ev, r⟩ := E.sh j d e'
      exact ⟨v, ev, r.mono st⟩
    · cases e'
  · rcases back j _ ej with ⟨e', hj⟩ | ⟨i, m', d', x, a, h1, h2, h3, hm, e', hx, es, sj⟩
    · obtain ⟨a, ea, t, na, nf⟩ := E.own j m d e'
      have nop : ¬ IOp io vs a := fun z => by
        obtain ⟨_, s, hs, q4, m2, d2, _, q5⟩ := op a z
        exact hj (E.inj j s m m2 d d2 a e' q5 ea q4 ▸ hs)
      obtain ⟨o, eo⟩ := t.there
      refine ⟨a, ea, t.mono st fun o e => .inl (keep a o e nop), na, fun hm q u z => ?_⟩
      rw [keep a o eo nop] at z
      cases z
      exact nf hm q u eo
    · cases es
      obtain ⟨a', ea, _, na, _⟩ := E.own j m d' e'
      rw [sj] at ea
      cases ea
      obtain ⟨x', hx', t, nf⟩ := tops i a h1 h2
      rw [hx] at hx'
      cases hx'
      exact ⟨a, sj, t.mono st2 fun o e => .inl e, na, fun _ => nf⟩
  · rcases back j _ ej with ⟨e', _⟩ | ⟨i, m', d', x, a', _, _, _, _, _, _, e', _⟩
    · exact E.fv j a e'
    · cases e'
  · have : ∀ k m d, ρ3[k]? = some (some (Sl.own m d)) → ∃ m' d', ρ[k]? = some (some (Sl.own m' d')) := fun k m d ek => by
      rcases back k _ ek with ⟨e', _⟩ | ⟨i, m', d', x, a', _, _, _, _, e', _, _, _⟩
      · exact ⟨m, d, e'⟩
      · exact ⟨m', d', e'⟩
    obtain ⟨_, _, h1⟩ := this i m d ei
    obtain ⟨_, _, h2⟩ := this j m' d' ej
    exact E.inj i j _ _ _ _ a h1 h2 si sj
  · obtain ⟨_, s, _, q4, m2, d2, hm, q5⟩ := op b z
    exact ⟨s, m2, d2, q5, hm, q4⟩
  · obtain ⟨j, m, d, ej, hm, sj⟩ := z
    rcases back j _ ej with ⟨e', _⟩ | ⟨i, m', d', x, a', _, _, _, hm', e', _, es, _⟩
    · exact .inl ⟨j, m, d, e', hm, sj⟩
    · exact .inl ⟨j, m', d', e', hm', sj⟩
  · by_cases hj : j ∈ slotsIO io rs
    · obtain ⟨i, h1, h2⟩ := p.slot hj
      obtain ⟨m, d0, x, g1, g2, g3⟩ := f2 i j h1 h2
      rw [ej] at g1
      cases g1
      exact ⟨x, g3, rfl⟩
    · exact ⟨d, by rw [f1 j hj]; exact ej, rfl⟩
end
section
variable {ι : Type} {C : Core} {Rs : ι → Rest} {e : Expr} {es : List Expr} {mas : MA} {pos : Pos}
theorem se_appIO {x : PySem.Str} {p : Pos} {k : Nat} {N : List PySem.Str} {io : List Bool} {f : MFio} (F : FnIO C.prog C.w C.K C.mg C.base k x N io f) (hr : Room k C.A) (ha : SA C Rs (e :: es) mas) (hg : ∀ i, Gl (cx C (Rs i)) x := by intro _; rfl)
    (hdb : (x == ("__debug__" : PySem.Str)) = false := by decide) (he : ∀ i, starEach (e :: es) (Rs i).env = (false, eval e (Rs i).env) :: starEach es (Rs i).env := by intro _; rfl) (hpl : ∀ i, (backTo pos (starEach es (Rs i).env)).any (·.1) = false := by intro _; rfl) :
    SE C Rs (.Call (.Name x p) (e :: es) [] pos) (mAppIO io f mas) := by
  obtain ⟨a, fd, ps, hm, hk, hb, G⟩ := F.ex
  obtain ⟨t, pa, s⟩ := ha
  refine ⟨_, fun i => pe_call (X := cx C (Rs i)) G hr (hg i) hm hk hb .nil pass0 (pa i) hdb (he i) (hpl i), fun A σ ρ H rr ρ' Q E e q => ?_⟩
  obtain ⟨rs, ρ1, e1, e⟩ := bnd_some e
  obtain ⟨ds, ρ2, e2, e⟩ := bnd_some e
  split at e
  · rename_i hn
    split at e
    · rename_i r os ef
      obtain ⟨ρ3, e3, e⟩ := obd_some e
      cases e
      refine s A σ ρ H rs ρ1 _ E e1 fun vs H1 x1 E1 b1 => ?_
      obtain ⟨E2, x2, pr⟩ := prepIO_ok b1 E1 e2
      obtain ⟨hv, hl, _⟩ := pr.len
      rw [List.append_nil]
      refine ⟨fun b => Av A σ ρ2 b ∧ ¬ IOp io vs b, ds, r, os, hv, hl, prep_start pr hn E2, ef, fun v H' O' keep there hO hO2 rv tops => ?_⟩
      have hO3 : ∀ b, Av A σ ρ2 b → O' b := fun b z => by
        by_cases h : IOp io vs b
        · exact hO2 b h
        · exact hO b ⟨z, h⟩
      obtain ⟨E3, x3, av⟩ := call_back pr hn E2 e3 keep there hO3 tops
      exact q v H' ((x1.trans x2).trans x3) ⟨E3, rv.mono fun b o eb nb => ⟨fun z => nb (hO3 b (av b z)), .inl eb⟩⟩
    · cases e
  · cases e
end
end Nb

namespace Nb
open PySem PySem.Spec PyProof.Rows L2

def wipeE (ρ : VE) : List Nat → VE
  | [] => ρ
  | v :: vs => (wipeE ρ vs).set v none
def freeS (ρ : VE) (vs : List Nat) : Bool := vs.all fun v => match ρ[v]? with
  | some (some (Sl.own _ _)) => false
  | _ => true
def backE (ρ ρ₀ : VE) : List Nat → VE
  | [] => ρ
  | v :: vs => match ρ₀[v]? with
    | some o => (backE ρ ρ₀ vs).set v o
    | none => backE ρ ρ₀ vs
theorem wipeE_length (ρ : VE) : ∀ vs : List Nat, (wipeE ρ vs).length = ρ.length
  | [] => rfl
  | v :: vs => by unfold wipeE; rw [List.length_set, wipeE_length ρ vs]
theorem wipeE_in {ρ : VE} {i : Nat} : ∀ {vs : List Nat}, i ∈ vs → i < ρ.length → (wipeE ρ vs)[i]? = some none
  | [], h, _ => by cases h
  | v :: vs, h, hl => by
    unfold wipeE
    by_cases hv : v = i
    · subst hv
      exact List.getElem?_set_self (by rw [wipeE_length]; exact hl)
    · rw [List.getElem?_set_ne hv]
      exact wipeE_in ((List.mem_cons.mp h).resolve_left (Ne.symm hv)) hl
theorem wipeE_out {ρ : VE} {i : Nat} : ∀ {vs : List Nat}, i ∉ vs → (wipeE ρ vs)[i]? = ρ[i]?
  | [], _ => rfl
  | v :: vs, h => by
    unfold wipeE
    rw [List.getElem?_set_ne (fun z => h (by rw [z]; exact List.mem_cons_self)), wipeE_out fun z => h (List.mem_cons_of_mem _ z)]
theorem backE_length (ρ ρ₀ : VE) : ∀ vs : List Nat, (backE ρ ρ₀ vs).length = ρ.length
  | [] => rfl
  | v :: vs => by
    unfold backE
    split
    · rw [List.length_set, backE_length ρ ρ₀ vs]
    · exact backE_length ρ ρ₀ vs
theorem backE_in {ρ ρ₀ : VE} {i : Nat} : ∀ {vs : List Nat}, i ∈ vs → i < ρ.length → ρ₀.length = ρ.length → (backE ρ ρ₀ vs)[i]? = ρ₀[i]?
  | [], h, _, _ => by cases h
  | v :: vs, h, hl, he => by
    unfold backE
    split
    · rename_i o eo
      by_cases hv : v = i
      · subst hv
        rw [List.getElem?_set_self (by rw [backE_length]; exact hl), eo]
      · rw [List.getElem?_set_ne hv]
        exact backE_in ((List.mem_cons.mp h).resolve_left (Ne.symm hv)) hl he
    · rename_i eo
      by_cases hv : v = i
      · subst hv
        rw [List.getElem?_eq_none_iff] at eo
        omega
      · exact backE_in ((List.mem_cons.mp h).resolve_left (Ne.symm hv)) hl he
theorem backE_out {ρ ρ₀ : VE} {i : Nat} : ∀ {vs : List Nat}, i ∉ vs → (backE ρ ρ₀ vs)[i]? = ρ[i]?
  | [], _ => rfl
  | v :: vs, h => by
    unfold backE
    split
    · rw [List.getElem?_set_ne (fun z => h (by rw [z]; exact List.mem_cons_self)), backE_out fun z => h (List.mem_cons_of_mem _ z)]
    · exact backE_out fun z => h (List.mem_cons_of_mem _ z)
section
variable {K : PySem.W.Frag} {A : AS} {σ : L2.St} {ρ ρ' ρ₀ : VE} {H H' : Hp} {vs : List Nat}
theorem freeS_no (h : freeS ρ vs = true) {i : Nat} (hi : i ∈ vs) (m : Md) (d : D) : ρ[i]? ≠ some (some (Sl.own m d)) := fun e => by
  have := List.all_eq_true.mp h i hi
  rw [e] at this
  cases this
theorem own_wipe {b : Addr} (h : Own (wipe σ vs) (wipeE ρ vs) b) : ∃ j m d, j ∉ vs ∧ ρ[j]? = some (some (Sl.own m d)) ∧ σ[j]? = some (some (V.ref b)) := by
  obtain ⟨j, m, d, e, s⟩ := h
  obtain ⟨s1, s2⟩ := wipe_some s
  exact ⟨j, m, d, s2, by rw [wipeE_out s2] at e; exact e, s1⟩
theorem eok_wipe (E : EOk K A σ ρ H) (hf : freeS ρ vs = true) : EOk K A (wipe σ vs) (wipeE ρ vs) H ∧ Ext σ ρ H (wipe σ vs) (wipeE ρ vs) H := by
  have sub : ∀ b, Own (wipe σ vs) (wipeE ρ vs) b → Own σ ρ b := fun b z => let ⟨j, m, d, _, e, s⟩ := own_wipe z; ⟨j, m, d, e, s⟩
  have st : Stay (Av A σ ρ) H (Av A (wipe σ vs) (wipeE ρ vs)) H := fun b o e n => ⟨fun z => n (z.elim .inl fun z => .inr (sub b z)), .inl e⟩
  have out : ∀ i s, (wipeE ρ vs)[i]? = some (some s) → i ∉ vs := fun i s e hi => by
    have hl : i < ρ.length := by rw [← wipeE_length ρ vs]; exact (List.getElem?_eq_some_iff.mp e).1
    rw [wipeE_in hi hl] at e
    cases e
  refine ⟨⟨by rw [wipe_length, wipeE_length, E.len], E.dom, fun i d e => ?_, fun i m d e => ?_, fun i a e => ?_, fun i j m n d e a ei ej si sj => ?_⟩, ⟨fun b o e _ => e, fun b o e => ⟨o, e⟩, fun b z => .inl (sub b z), fun b z => ?_, fun i d e => ?_⟩⟩
  · have hi := out i _ e
    rw [wipeE_out hi] at e
    obtain ⟨v, ev, r⟩ := E.sh i d e
    exact ⟨v, by rw [wipe_out hi]; exact ev, r.mono st⟩
  · have hi := out i _ e
    rw [wipeE_out hi] at e
    obtain ⟨a, ea, t, n, f⟩ := E.own i m d e
    exact ⟨a, by rw [wipe_out hi]; exact ea, t.mono st fun o e => .inl e, n, f⟩
  · have hi := out i _ e
    rw [wipeE_out hi] at e
    rw [wipe_out hi]
    exact E.fv i a e
  · have h1 := out i _ ei
    have h2 := out j _ ej
    rw [wipeE_out h1] at ei
    rw [wipeE_out h2] at ej
    rw [wipe_out h1] at si
    rw [wipe_out h2] at sj
    exact E.inj i j m n d e a ei ej si sj
  · obtain ⟨j, m, d, e, hm, s⟩ := z
    obtain ⟨s1, s2⟩ := wipe_some s
    rw [wipeE_out s2] at e
    exact .inl ⟨j, m, d, e, hm, s1⟩
  · have hi : i ∉ vs := fun hi => freeS_no hf hi _ _ e
    exact ⟨d, by rw [wipeE_out hi]; exact e, wipe_out hi⟩
theorem eok_back (E₀ : EOk K A σ ρ₀ H) (hf : freeS ρ₀ vs = true) (E : EOk K A (wipe σ vs) ρ H') (x : Ext (wipe σ vs) (wipeE ρ₀ vs) H (wipe σ vs) ρ H') (hw : ∀ i ∈ vs, ρ[i]? = some none ∨ ρ[i]? = none) :
    EOk K A σ (backE ρ ρ₀ vs) H' ∧ Ext σ ρ₀ H σ (backE ρ ρ₀ vs) H' ∧ ∀ b, Av A σ (backE ρ ρ₀ vs) b ↔ Av A (wipe σ vs) ρ b := by
  obtain ⟨Ew, xw⟩ := eok_wipe E₀ hf
  have hlen : ρ₀.length = ρ.length := by rw [← E₀.len, ← E.len, wipe_length]
  have get : ∀ i, (i ∈ vs ∧ (backE ρ ρ₀ vs)[i]? = ρ₀[i]?) ∨ (i ∉ vs ∧ (backE ρ ρ₀ vs)[i]? = ρ[i]?) := fun i => by
    by_cases hi : i ∈ vs
    · by_cases hl : i < ρ.length
      · exact .inl ⟨hi, backE_in hi hl hlen⟩
      · exact .inl ⟨hi, by rw [List.getElem?_eq_none (by rw [backE_length]; omega), List.getElem?_eq_none (by omega)]⟩
    · exact .inr ⟨hi, backE_out hi⟩
  have own : ∀ i m d, (backE ρ ρ₀ vs)[i]? = some (some (Sl.own m d)) ↔ i ∉ vs ∧ ρ[i]? = some (some (Sl.own m d)) := fun i m d => by
    rcases get i with ⟨hi, e⟩ | ⟨hi, e⟩
    · rw [e]
      exact ⟨fun z => absurd z (freeS_no hf hi m d), fun z => absurd hi z.1⟩
    · rw [e]
      exact ⟨fun z => ⟨hi, z⟩, fun z => z.2⟩
  have own2 : ∀ i m d, ρ[i]? = some (some (Sl.own m d)) → i ∉ vs := fun i m d e hi => by
    rcases hw i hi with z | z <;> rw [z] at e <;> cases e
  have ow : ∀ b, Own σ (backE ρ ρ₀ vs) b ↔ Own (wipe σ vs) ρ b := fun b => by
    constructor
    · rintro ⟨j, m, d, e, s⟩
      obtain ⟨hj, e'⟩ := (own j m d).mp e
      exact ⟨j, m, d, e', by rw [wipe_out hj]; exact s⟩
    · rintro ⟨j, m, d, e, s⟩
      have hj := own2 j m d e
      rw [wipe_out hj] at s
      exact ⟨j, m, d, (own j m d).mpr ⟨hj, e⟩, s⟩
  have av : ∀ b, Av A σ (backE ρ ρ₀ vs) b ↔ Av A (wipe σ vs) ρ b := fun b => by
    unfold Av
    rw [ow b]
  have st : Stay (Av A (wipe σ vs) ρ) H' (Av A σ (backE ρ ρ₀ vs)) H' := fun b o e n => ⟨fun z => n ((av b).mp z), .inl e⟩
  have x2 : Ext σ ρ₀ H (wipe σ vs) ρ H' := xw.trans x
  refine ⟨⟨by rw [backE_length, ← hlen, E₀.len], E.dom, fun i d e => ?_, fun i m d e => ?_, fun i a e => ?_, fun i j m n d e a ei ej si sj => ?_⟩, ⟨x2.keep, x2.there, fun b z => x2.own b ((ow b).mp z), fun b z => ?_, fun i d e => ?_⟩, av⟩
  · rcases get i with ⟨hi, e'⟩ | ⟨hi, e'⟩
    · rw [e'] at e
      obtain ⟨v, ev, r⟩ := E₀.sh i d e
      exact ⟨v, ev, (r.mono x2.stay).mono st⟩
    · rw [e'] at e
      obtain ⟨v, ev, r⟩ := E.sh i d e
      rw [wipe_out hi] at ev
      exact ⟨v, ev, r.mono st⟩
  · obtain ⟨hi, e'⟩ := (own i m d).mp e
    obtain ⟨a, ea, t, n, f⟩ := E.own i m d e'
    rw [wipe_out hi] at ea
    exact ⟨a, ea, t.mono st fun o e => .inl e, n, f⟩
  · rcases get i with ⟨hi, e'⟩ | ⟨hi, e'⟩
    · rw [e'] at e
      exact E₀.fv i a e
    · rw [e'] at e
      have q := E.fv i a e
      rw [wipe_out hi] at q
      exact q
  · obtain ⟨h1, e1⟩ := (own i m d).mp ei
    obtain ⟨h2, e2⟩ := (own j n e).mp ej
    exact E.inj i j m n d e a e1 e2 (by rw [wipe_out h1]; exact si) (by rw [wipe_out h2]; exact sj)
  · obtain ⟨j, m, d, e, hm, s⟩ := z
    obtain ⟨hj, e'⟩ := (own j m d).mp e
    exact x2.mown b ⟨j, m, d, e', hm, by rw [wipe_out hj]; exact s⟩
  · have hi : i ∉ vs := fun hi => freeS_no hf hi _ _ e
    obtain ⟨d', e', s'⟩ := x2.io i d e
    exact ⟨d', (own i .io d').mpr ⟨hi, e'⟩, rfl⟩
theorem eok_updA {a : Addr} {o : HO} (E : EOk K A σ ρ H) (ha : A a) : EOk K A σ ρ (upd H a o) := by
  have st : Stay (Av A σ ρ) H (Av A σ ρ) (upd H a o) := fun b u e n => ⟨n, .inl (by rw [upd_ne (fun (z : b = a) => n (.inl (by rw [z]; exact ha)))]; exact e)⟩
  refine ⟨E.len, fun b z => ?_, fun i d e => ?_, fun i m d e => ?_, E.fv, E.inj⟩
  · by_cases hb : b = a
    · subst hb; exact ⟨o, upd_same⟩
    · obtain ⟨u, e⟩ := E.dom b z
      exact ⟨u, by rw [upd_ne hb]; exact e⟩
  · obtain ⟨v, ev, r⟩ := E.sh i d e
    exact ⟨v, ev, r.mono st⟩
  · obtain ⟨b, eb, t, n, f⟩ := E.own i m d e
    have hb : b ≠ a := fun z => n (z ▸ ha)
    exact ⟨b, eb, t.mono st fun u e => .inl (by rw [upd_ne hb]; exact e), n, fun hm q u z => f hm q u (by rw [upd_ne hb] at z; exact z)⟩
theorem ext_updA {H₀ : Hp} {σ' : L2.St} {a : Addr} {o : HO} (x : Ext σ ρ₀ H₀ σ' ρ H) (hn : H₀ a = none) : Ext σ ρ₀ H₀ σ' ρ (upd H a o) :=
  ⟨fun b u e n => by rw [upd_ne (fun z => by subst z; rw [hn] at e; cases e)]; exact x.keep b u e n, fun b u e => by
    by_cases hb : b = a
    · subst hb; exact ⟨o, upd_same⟩
    · rw [upd_ne hb]; exact x.there b u e, x.own, x.mown, x.io⟩
end

def compL (g : MG) (mt : MT) (me : ME) (vs : List Nat) : List D → VE → List D → Option (List D × VE)
  | [], ρ, acc => some (acc, ρ)
  | d :: ds, ρ, acc => obd (g d ρ) fun ρ1 => bnd (mt ρ1) fun b ρ2 => if b then bnd (me ρ2) fun r ρ3 => bnd (frz ρ3 r) fun x ρ4 => if szOk (acc.length + 1) && freeS ρ4 vs then compL g mt me vs ds (wipeE ρ4 vs) (acc ++ [x]) else none
      else if freeS ρ2 vs then compL g mt me vs ds (wipeE ρ2 vs) acc else none
def mComp (mi : MI) (g : MG) (mt : MT) (me : ME) (vs : List Nat) : ME := fun ρ => bnd (mi ρ) fun ds ρ0 => if freeS ρ0 vs then bnd (compL g mt me vs ds (wipeE ρ0 vs) []) fun xs ρ1 => some (.new (.list xs), backE ρ1 ρ0 vs) else none
def STs {ι : Type} (C : Core) (Rs : ι → Rest) (ifs : List Expr) (m : MT) : Prop := ∃ t, (∀ i, PTs (cx C (Rs i)) ifs t) ∧ SndT C.K t m
def mYes : MT := fun ρ => some (true, ρ)
abbrev BI (ι : Type) := ι × Shared × Hp × Addr × List (PySem.Str × Addr) × List Addr
def blkR {ι : Type} (Rs : ι → Rest) (scope : Scope) (j : BI ι) : Rest :=
  { Rs j.1 with s_0 := j.2.1, H_0 := j.2.2.1, env := compEnvC scope j.2.2.2.2.1 j.2.2.2.1 (Rs j.1).env, outer := (Rs j.1).stack, ex := j.2.2.2.2.2, fn := fun x => scope.names.lookup x == some .cell, pn := [], xe := fun _ _ => False }
section
variable {ι : Type} {C : Core} {Rs : ι → Rest} {e elt tg it : Expr} {ifs : List Expr} {me : ME} {mt : MT} {mi : MI} {g : MG} {pos : Pos}
theorem sts_nil : STs C Rs [] mYes := ⟨_, fun _ => pts_nil, fun A σ ρ H c ρ' Q E e q => by
  cases e
  exact q H .refl E⟩
theorem sts_one (h : ST C Rs e mt) : STs C Rs [e] mt := let ⟨t, p, s⟩ := h; ⟨t, fun i => pts_one (p i), s⟩
theorem wipe_idem {σ : L2.St} {vs : List Nat} : wipe (wipe σ vs) vs = wipe σ vs := by
  apply List.ext_getElem?
  intro i
  by_cases hi : i ∈ vs
  · by_cases hl : i < σ.length
    · have h1 : ∀ τ : L2.St, i < τ.length → (wipe τ vs)[i]? = some none := fun τ ht => by
        cases e : (wipe τ vs)[i]? with
        | none => rw [List.getElem?_eq_none_iff, wipe_length] at e; omega
        | some o =>
          cases o with
          | none => rfl
          | some x => exact absurd hi (wipe_some e).2
      rw [h1 σ hl, h1 (wipe σ vs) (by rw [wipe_length]; exact hl)]
    · rw [List.getElem?_eq_none (by rw [wipe_length, wipe_length]; omega), List.getElem?_eq_none (by rw [wipe_length]; omega)]
  · rw [wipe_out hi]
theorem snd_comp {K : PySem.W.Frag} {wi : TI} {tg : TG} {tt : TT} {te : TE} {vs is : List Nat} (si : SndI K wi mi) (sg : SndG K tg g is) (st : SndT K tt mt) (se : Snd K te me) (hv : ∀ i ∈ is, i ∈ vs) : Snd K (tLc wi tg tt te vs) (mComp mi g mt me vs) := by
  intro A σ ρ H r ρ' Q E e q
  obtain ⟨ds, ρ0, e0, e⟩ := bnd_some e
  split at e
  · rename_i hf
    obtain ⟨xs, ρ1, e1, e⟩ := bnd_some e
    cases e
    refine si A σ ρ H ds ρ0 _ E e0 fun J H0 x0 E0 it => fun Da hD => ?_
    obtain ⟨Ew, xw⟩ := eok_wipe E0 hf
    have wipeN : ∀ {ρ : VE} i, i ∈ vs → (wipeE ρ vs)[i]? = some none ∨ (wipeE ρ vs)[i]? = none := fun {ρ} i hi => by
      by_cases hl : i < ρ.length
      · exact .inl (wipeE_in hi hl)
      · exact .inr (List.getElem?_eq_none (by rw [wipeE_length]; omega))
    refine ⟨fun i k H1 => k = ds.length - i ∧ i ≤ ds.length ∧ ∃ ρi acc accv, EOk K (add A Da) (wipe σ vs) ρi H1 ∧ Ext (wipe σ vs) (wipeE ρ0 vs) H0 (wipe σ vs) ρi H1 ∧ H1 Da = some (.lst accv) ∧ RpA K (Av (add A Da) (wipe σ vs) ρi) H1 accv acc ∧ (∀ i ∈ vs, ρi[i]? = some none ∨ ρi[i]? = none) ∧
      compL g mt me vs (ds.drop i) ρi acc = some (xs, ρ1), ⟨_, rfl, Nat.zero_le _, wipeE ρ0 vs, [], [], ?_, ?_, upd_same, .nil, fun i hi => wipeN i hi, by rw [List.drop_zero]; exact e1⟩, ?_⟩
    · exact Ew.grow (Gr.upd hD) fun b z => z.elim .inl fun z => .inr ⟨z ▸ hD, z ▸ ⟨_, upd_same⟩⟩
    · exact .grow (Gr.upd hD)
    rintro i k H1 ⟨rfl, hi, ρi, acc, accv, E1, x1, hH, ra, hw, e2⟩
    obtain ⟨go, stop⟩ := it (Av (add A Da) (wipe σ vs) ρi) H1 (fun b => E1.there) (fun b o eb nb => by
      have nb' : ¬ Av A (wipe σ vs) (wipeE ρ0 vs) b := (xw.stay b o eb nb).1
      have q := x1.it (A := A) b o eb nb'
      refine ⟨fun z => ?_, q.2⟩
      rcases z with (z | z) | z
      · exact q.1 (.inl z)
      · subst z
        rw [hD] at eb
        cases eb
      · exact q.1 (.inr z)) i
    by_cases hlt : i < ds.length
    · obtain ⟨d, hd⟩ : ∃ d, ds[i]? = some d := ⟨ds[i], List.getElem?_eq_getElem hlt⟩
      have hdr : ds.drop i = d :: ds.drop (i + 1) := by
        rw [List.drop_eq_getElem_cons hlt]
        rw [List.getElem?_eq_getElem hlt] at hd
        cases hd
        rfl
      rw [hdr] at e2
      obtain ⟨ρa, ea, e2⟩ := obd_some e2
      obtain ⟨b, ρb, eb, e2⟩ := bnd_some e2
      obtain ⟨go, yl⟩ := go d hd
      refine .inr ⟨go, fun H2 => ∃ ρi acc accv, EOk K (add A Da) (wipe σ vs) ρi H2 ∧ Ext (wipe σ vs) (wipeE ρ0 vs) H0 (wipe σ vs) ρi H2 ∧ H2 Da = some (.lst accv) ∧ RpA K (Av (add A Da) (wipe σ vs) ρi) H2 accv acc ∧ (∀ i ∈ vs, ρi[i]? = some none ∨ ρi[i]? = none) ∧
        compL g mt me vs (ds.drop (i + 1)) ρi acc = some (xs, ρ1), fun H2 h => ⟨ds.length - (i + 1), by omega, rfl, hlt, h⟩, fun x H2 hy => ?_⟩
      obtain ⟨gr, rx⟩ := yl x H2 hy
      have x12 : Ext (wipe σ vs) ρi H1 (wipe σ vs) ρi H2 := .grow gr
      refine sg _ (wipe σ vs) ρi H2 x d ρa _ (E1.grow gr fun b z => .inl z) rx ea fun σa H3 E3 x3 w3 => ?_
      have w3' := w3 vs hv
      rw [wipe_idem] at w3'
      refine ⟨w3', st _ σa ρa H3 b ρb _ E3 eb fun H4 x4 E4 => ?_⟩
      have nDa : ∀ {σ' : L2.St} {ρ' : VE} {H' : Hp}, EOk K (add A Da) σ' ρ' H' → ¬ MOwn σ' ρ' Da := fun E' z => by
        obtain ⟨j, m, d', ej, _, sj⟩ := z
        obtain ⟨a', ea', _, na', _⟩ := E'.own j m d' ej
        rw [sj] at ea'
        cases ea'
        exact na' (.inr rfl)
      have x14 := (x12.trans x3).trans x4
      cases b with
      | true =>
        rw [if_pos rfl] at e2 ⊢
        obtain ⟨rr, ρc, ec, e2⟩ := bnd_some e2
        obtain ⟨y, ρd, ed, e2⟩ := bnd_some e2
        split at e2
        · rename_i hc
          rw [Bool.and_eq_true] at hc
          refine se.use E4 ec fun v H5 x5 E5 b5 => ?_
          obtain ⟨E6, x6, r6⟩ := frz_ok b5 E5 ed
          have x16 := (x14.trans x5).trans x6
          obtain ⟨Ew6, xw6⟩ := eok_wipe E6 hc.2
          rw [w3'] at Ew6 xw6
          have x17 := x16.trans xw6
          have hDa : H5 Da = some (.lst accv) := x17.keep Da _ hH (nDa E1)
          have ra' : RpA K (Av (add A Da) (wipe σ vs) (wipeE ρd vs)) H5 accv acc := x17.rpA ra
          have rv' : Rp K (Av (add A Da) (wipe σ vs) (wipeE ρd vs)) H5 v y := xw6.rp r6
          have stA : Stay (Av (add A Da) (wipe σ vs) (wipeE ρd vs)) H5 (Av (add A Da) (wipe σ vs) (wipeE ρd vs)) (upd H5 Da (.lst (accv ++ [v]))) := fun b u e n => ⟨n, .inl (by rw [upd_ne fun z => n (.inl (.inr z))]; exact e)⟩
          refine ⟨accv, hDa, ?_, wipeE ρd vs, acc ++ [y], accv ++ [v], eok_updA Ew6 (.inr rfl), ext_updA (x1.trans x17) hD, upd_same, (ra'.snoc rv').mono stA, fun i hi => wipeN i hi, e2⟩
          have := szOk_le hc.1
          rw [ra.length]
          omega
        · cases e2
      | false =>
        rw [if_neg Bool.false_ne_true] at e2 ⊢
        split at e2
        · rename_i hc
          obtain ⟨Ew6, xw6⟩ := eok_wipe E4 hc
          rw [w3'] at Ew6 xw6
          have x17 := x14.trans xw6
          exact ⟨wipeE ρb vs, acc, accv, Ew6, x1.trans x17, x17.keep Da _ hH (nDa E1), x17.rpA ra, fun i hi => wipeN i hi, e2⟩
        · cases e2
    · have hl : ds.length ≤ i := by omega
      rw [List.drop_eq_nil_of_le hl] at e2
      cases e2
      refine .inl ⟨stop hl, ?_⟩
      have EA : EOk K (add A Da) σ ρ0 (upd H0 Da (.lst [])) := E0.grow (Gr.upd hD) fun b z => z.elim .inl fun z => .inr ⟨z ▸ hD, z ▸ ⟨_, upd_same⟩⟩
      have E1' : EOk K A (wipe σ vs) ρ1 H1 := E1.weaken fun b z => .inl z
      obtain ⟨Eb, xb, av⟩ := eok_back (A := A) E0 hf E1' x1 hw
      have av2 : ∀ b, Av (add A Da) σ (backE ρ1 ρ0 vs) b ↔ Av (add A Da) (wipe σ vs) ρ1 b := fun b => by
        have := av b
        unfold Av at this ⊢
        unfold add
        constructor
        · rintro ((z | z) | z)
          · exact .inl (.inl z)
          · exact .inl (.inr z)
          · exact (this.mp (.inr z)).elim (fun z => .inl (.inl z)) .inr
        · rintro ((z | z) | z)
          · exact .inl (.inl z)
          · exact .inl (.inr z)
          · exact (this.mpr (.inr z)).elim (fun z => .inl (.inl z)) .inr
      have nD : ¬ Av A σ (backE ρ1 ρ0 vs) Da := fun z => by
        rcases (av Da).mp z with z | ⟨j, m, d', ej, sj⟩
        · obtain ⟨o, eo⟩ := E0.dom Da z
          rw [hD] at eo
          cases eo
        · obtain ⟨a', ea', _, na', _⟩ := E1.own j m d' ej
          rw [sj] at ea'
          cases ea'
          exact na' (.inr rfl)
      -- the same with the new list avoided
      have Eb2 : EOk K (add A Da) σ (backE ρ1 ρ0 vs) H1 := by
        refine ⟨Eb.len, fun b z => z.elim (fun z => Eb.dom b z) fun z => z ▸ ⟨_, hH⟩, fun j d ej => ?_, fun j m d ej => ?_, Eb.fv, Eb.inj⟩
        · by_cases hj : j ∈ vs
          · have hlen : ρ0.length = ρ1.length := by rw [← E0.len, ← E1.len, wipe_length]
            have hjl : j < ρ1.length := by rw [← backE_length ρ1 ρ0 vs]; exact (List.getElem?_eq_some_iff.mp ej).1
            rw [backE_in hj hjl hlen] at ej
            obtain ⟨v, ev, rv⟩ := E0.sh j d ej
            refine ⟨v, ev, rv.mono fun b o eb nb => ?_⟩
            have q := (xw.trans x1).stay b o eb nb
            refine ⟨fun z => ?_, q.2⟩
            rcases (av2 b).mp z with (z | z) | z
            · exact q.1 (.inl z)
            · subst z
              rw [hD] at eb
              cases eb
            · exact q.1 (.inr z)
          · rw [backE_out hj] at ej
            obtain ⟨v, ev, rv⟩ := E1.sh j d ej
            rw [wipe_out hj] at ev
            exact ⟨v, ev, rv.mono fun b o eb nb => ⟨fun z => nb ((av2 b).mp z), .inl eb⟩⟩
        · by_cases hj : j ∈ vs
          · have hlen : ρ0.length = ρ1.length := by rw [← E0.len, ← E1.len, wipe_length]
            have hjl : j < ρ1.length := by rw [← backE_length ρ1 ρ0 vs]; exact (List.getElem?_eq_some_iff.mp ej).1
            rw [backE_in hj hjl hlen] at ej
            exact absurd ej (freeS_no hf hj m d)
          · rw [backE_out hj] at ej
            obtain ⟨a, ea, t, na, nf⟩ := E1.own j m d ej
            rw [wipe_out hj] at ea
            exact ⟨a, ea, t.mono (fun b o eb nb => ⟨fun z => nb ((av2 b).mp z), .inl eb⟩) fun o e => .inl e, na, nf⟩
      refine q _ H1 (x0.trans xb) ⟨Da, rfl, res_start x0 Da hD, Eb2, .lst hH (ra.mono fun b o eb nb => ⟨fun z => nb ((av2 b).mp z), .inl eb⟩), fun q u z => ?_, nD⟩
      rw [hH] at z
      cases z
  · cases e
theorem se_comp {scope sc : Scope} {own : List (PySem.Str × Nat)} {is : List Nat} (hN : C.N.Nodup) (hi : SI C Rs tg it mi) (hg : SG C (blkR Rs scope) tg g is) (ht : STs C (blkR Rs scope) ifs mt) (he : SE C (blkR Rs scope) elt me) (ok : blkC C.N sc scope own = true)
    (hv : ∀ i ∈ is, i ∈ own.map (·.2) := by decide) (hsc : ∀ i, (Rs i).env.scope = sc := by intro _; rfl) (hs : ∀ i x, foldedSetIterable it (Rs i).env x = pure x := by intro _ _; rfl) :
    SE C Rs (.ListComp elt [⟨tg, it, ifs, 0⟩] scope pos) (mComp mi g mt me (own.map (·.2))) := by
  obtain ⟨wi, pi, si⟩ := hi
  obtain ⟨tg', pg, sg⟩ := hg
  obtain ⟨tt, pt, st⟩ := ht
  obtain ⟨te, pe, se⟩ := he
  exact ⟨_, fun i => pe_lc (X := cx C (Rs i)) rfl hN (pi i) (by rw [show (cx C (Rs i)).env.scope = sc from hsc i]; exact blkOk_by ok) (fun s H a cl fp => pg (i, s, H, a, cl, fp)) (fun s H a cl fp => pt (i, s, H, a, cl, fp)) (fun s H a cl fp => pe (i, s, H, a, cl, fp)) (hs i), snd_comp si sg st se hv⟩
theorem ss_setComp (i : Nat) {y : PySem.Str} {py spos : Pos} {scope sc : Scope} {own : List (PySem.Str × Nat)} {is : List Nat} (hN : C.N.Nodup) (hi : SI C Rs tg it mi) (hg : SG C (blkR Rs scope) tg g is) (ht : STs C (blkR Rs scope) ifs mt) (he : SE C (blkR Rs scope) elt me) (ok : blkC C.N sc scope own = true)
    (hyl : sc.names.lookup y = some .local := by rfl) (hsw : (scope.names.any fun (n, k) => n == y && (k == .local || k == .cell)) = false := by decide +kernel) (hl : (py.line == pos.line) = true := by rfl) (hk : sc.kind = .function := by rfl) (hy : C.N[i]? = some y := by rfl)
    (hv : ∀ i ∈ is, i ∈ own.map (·.2) := by decide) (hsc : ∀ i, (Rs i).env.scope = sc := by intro _; rfl) (hs : ∀ i x, foldedSetIterable it (Rs i).env x = pure x := by intro _ _; rfl) :
    SS C Rs (.Assign [.Name y py] (.ListComp elt [⟨tg, it, ifs, 0⟩] scope pos) spos) (mSet i (mComp mi g mt me (own.map (·.2)))) := by
  obtain ⟨wi, pi, si⟩ := hi
  obtain ⟨tg', pg, sg⟩ := hg
  obtain ⟨tt, pt, st⟩ := ht
  obtain ⟨te, pe, se⟩ := he
  refine ⟨_, fun j => ps_setLc (X := cx C (Rs j)) rfl hN hy (by rw [show (cx C (Rs j)).env.scope = sc from hsc j]; exact hyl) (sw_true (by rw [show (cx C (Rs j)).env.scope = sc from hsc j]; exact hk) (by rw [show (cx C (Rs j)).env.scope = sc from hsc j]; exact hyl) hl hsw) (pi j)
    (by rw [show (cx C (Rs j)).env.scope = sc from hsc j]; exact blkOk_by ok) (fun s H a cl fp => pg (j, s, H, a, cl, fp)) (fun s H a cl fp => pt (j, s, H, a, cl, fp)) (fun s H a cl fp => pe (j, s, H, a, cl, fp)) (hs j), fun A σ ρ H ρ' f D E e q => ?_⟩
  obtain ⟨r, ρ1, e1, e⟩ := bnd_some e
  obtain ⟨ρ2, e2, e⟩ := obd_some e
  cases e
  refine snd_comp si sg st se hv A σ ρ H r ρ1 _ E e1 fun v H1 x1 rs => ?_
  obtain ⟨E2, x2⟩ := set_res x1 rs e2
  exact q _ _ E2 x2
end
end Nb

namespace Nb
open PySem PySem.Spec PyProof.Rows L2
section
variable {K : PySem.W.Frag} {A : AS} {O : AS} {σ : L2.St} {ρ ρ' : VE} {H H' : Hp}
theorem mut_ok {i : Nat} {m : Md} {d d' : D} {a : Addr} {o : HO} (E : EOk K A σ ρ H) (ei : ρ[i]? = some (some (Sl.own m d))) (hm : m ≠ .lk) (ea : σ[i]? = some (some (V.ref a))) (t : Top K (Av A σ ρ) (upd H a o) a d') (nf : NoFrz (upd H a o) a) :
    EOk K A σ (ρ.set i (some (Sl.own m d'))) (upd H a o) ∧ Ext σ ρ H σ (ρ.set i (some (Sl.own m d'))) (upd H a o) := by
  have p : PrepA K A σ ρ H [true] [.ref a] [.own i] [d] := .io ea ei hm .nil
  have ep : putS ρ i d' = some (ρ.set i (some (Sl.own m d'))) := by
    unfold putS
    rw [ei]
  have e : putIO [true] [.own i] [d'] ρ = some (ρ.set i (some (Sl.own m d'))) := by
    show obd (putS ρ i d') _ = _
    rw [ep]
    rfl
  obtain ⟨E', x', _⟩ := call_back (H' := upd H a o) (os := [d']) (O' := Av A σ ρ) p (List.nodup_cons.mpr ⟨by simp [slotsIO], List.nodup_nil⟩) E e (fun b u eb nb => by
      rw [upd_ne fun (z : b = a) => nb ⟨0, rfl, by rw [z]; rfl⟩]
      exact eb) (fun b u eb => by
      by_cases hb : b = a
      · subst hb; exact ⟨o, upd_same⟩
      · exact ⟨u, by rw [upd_ne hb]; exact eb⟩) (fun b z => z) (fun j c h1 h2 => by
      cases j with
      | zero => cases h2; exact ⟨d', rfl, t, nf⟩
      | succ j => cases h1)
  exact ⟨E', x'⟩
theorem upd_stay {a : Addr} {o : HO} (h : O a) : Stay O H O (upd H a o) := fun b u e n => ⟨n, .inl (by
  rw [upd_ne fun (z : b = a) => n (by rw [z]; exact h)]
  exact e)⟩
theorem nofrz_lst {a : Addr} {xs : List V} : NoFrz (upd H a (.lst xs)) a := fun q u z => by rw [upd_same] at z; cases z
theorem nofrz_dK {a : Addr} {xs : List (Key × V)} : NoFrz (upd H a (.dK xs)) a := fun q u z => by rw [upd_same] at z; cases z
def mutS : Option (Option Sl) → Option (Md × D)
  | some (some (Sl.own .ow d)) => some (.ow, d)
  | some (some (Sl.own .io d)) => some (.io, d)
  | _ => none
theorem mutS_some {i : Nat} {m : Md} {d : D} (h : mutS ρ[i]? = some (m, d)) : ρ[i]? = some (some (Sl.own m d)) ∧ m ≠ .lk := by
  unfold mutS at h
  split at h
  · rename_i e; cases h; exact ⟨e, by decide⟩
  · rename_i e; cases h; exact ⟨e, by decide⟩
  · cases h
theorem mut_lst {i : Nat} {m : Md} {ds : List D} (E : EOk K A σ ρ H) (h : mutS ρ[i]? = some (m, .list ds)) : ∃ a xs, σ[i]? = some (some (V.ref a)) ∧ H a = some (.lst xs) ∧ RpA K (Av A σ ρ) H xs ds ∧ Av A σ ρ a ∧
    ∀ (xs' : List V) (ds' : List D), RpA K (Av A σ ρ) H xs' ds' → EOk K A σ (ρ.set i (some (Sl.own m (.list ds')))) (upd H a (.lst xs')) ∧ Ext σ ρ H σ (ρ.set i (some (Sl.own m (.list ds')))) (upd H a (.lst xs')) := by
  obtain ⟨ei, hm⟩ := mutS_some h
  obtain ⟨a, ea, t, na, nf⟩ := E.own i m _ ei
  have av : Av A σ ρ a := .inr ⟨i, m, _, ei, ea⟩
  cases t with
  | lst hH r => exact ⟨a, _, ea, hH, r, av, fun xs' ds' r' => mut_ok E ei hm ea (.lst upd_same (r'.mono (upd_stay av))) nofrz_lst⟩
theorem mut_dK {i : Nat} {m : Md} {ds : List (D × D)} (E : EOk K A σ ρ H) (h : mutS ρ[i]? = some (m, .dict ds)) (hk : isK ds = true) : ∃ a kvs, σ[i]? = some (some (V.ref a)) ∧ H a = some (.dK kvs) ∧ ds.map (·.1) = kvs.map (fun p => kD p.1) ∧ RpA K (Av A σ ρ) H (kvs.map (·.2)) (ds.map (·.2)) ∧ Av A σ ρ a ∧
    ∀ (kvs' : List (Key × V)) (ds' : List (D × D)), ds'.map (·.1) = kvs'.map (fun p => kD p.1) → RpA K (Av A σ ρ) H (kvs'.map (·.2)) (ds'.map (·.2)) →
      EOk K A σ (ρ.set i (some (Sl.own m (.dict ds')))) (upd H a (.dK kvs')) ∧ Ext σ ρ H σ (ρ.set i (some (Sl.own m (.dict ds')))) (upd H a (.dK kvs')) := by
  obtain ⟨ei, hm⟩ := mutS_some h
  obtain ⟨a, ea, t, na, nf⟩ := E.own i m _ ei
  have av : Av A σ ρ a := .inr ⟨i, m, _, ei, ea⟩
  cases t with
  | dK hH e r =>
    rcases hH with hH | ⟨q, hH⟩
    · exact ⟨a, _, ea, hH, e, r, av, fun kvs' ds' e' r' => mut_ok E ei hm ea (.dK (.inl upd_same) e' (r'.mono (upd_stay av))) nofrz_dK⟩
    · exact absurd hH (nf hm q _)
  | dT hH e r => cases hk
def dPut (ds : List (D × D)) (k v : D) : List (D × D) := if ds.any (fun p => keyB p.1 k) then ds.map (fun p => if keyB p.1 k then (p.1, v) else p) else ds ++ [(k, v)]
theorem dPut_ok {k : Key} {v : V} {d : D} (rv : Rp K O H v d) {kvs : List (Key × V)} {ds : List (D × D)} (e : ds.map (·.1) = kvs.map (fun p => kD p.1)) (r : RpA K O H (kvs.map (·.2)) (ds.map (·.2))) :
    (dPut ds (kD k) d).map (·.1) = (putK kvs k v).map (fun p => kD p.1) ∧ RpA K O H ((putK kvs k v).map (·.2)) ((dPut ds (kD k) d).map (·.2)) := by
  have hany : ∀ {kvs : List (Key × V)} {ds : List (D × D)}, ds.map (·.1) = kvs.map (fun p => kD p.1) → ds.any (fun p => keyB p.1 (kD k)) = kvs.any (fun p => decide (p.1 = k)) := by
    intro kvs
    induction kvs with
    | nil => intro ds e; cases ds with
      | nil => rfl
      | cons p ds => cases e
    | cons q kvs ih => intro ds e; cases ds with
      | nil => cases e
      | cons p ds =>
        rw [List.map_cons, List.map_cons] at e
        injection e with e1 e2
        rw [List.any_cons, List.any_cons, ih e2, e1, keyB_kD]
  have hmap : ∀ {kvs : List (Key × V)} {ds : List (D × D)}, ds.map (·.1) = kvs.map (fun p => kD p.1) → RpA K O H (kvs.map (·.2)) (ds.map (·.2)) →
      (ds.map (fun p => if keyB p.1 (kD k) then (p.1, d) else p)).map (·.1) = (kvs.map fun kv => if kv.1 = k then (kv.1, v) else kv).map (fun p => kD p.1) ∧ RpA K O H ((kvs.map fun kv => if kv.1 = k then (kv.1, v) else kv).map (·.2)) ((ds.map (fun p => if keyB p.1 (kD k) then (p.1, d) else p)).map (·.2)) := by
    intro kvs
    induction kvs with
    | nil => intro ds e r; cases ds with
      | nil => exact ⟨rfl, .nil⟩
      | cons p ds => cases e
    | cons q kvs ih => intro ds e r; cases ds with
      | nil => cases e
      | cons p ds =>
        rw [List.map_cons, List.map_cons] at e
        injection e with e1 e2
        rw [List.map_cons, List.map_cons] at r
        cases r with
        | cons r1 r2 =>
          obtain ⟨i1, i2⟩ := ih e2 r2
          have ek : keyB p.1 (kD k) = decide (q.1 = k) := by rw [e1, keyB_kD]
          rw [List.map_cons, List.map_cons, List.map_cons, List.map_cons, i1, List.map_cons, List.map_cons, ek]
          by_cases hq : q.1 = k
          · rw [if_pos (decide_eq_true hq), if_pos hq]
            exact ⟨by rw [e1], .cons rv i2⟩
          · rw [if_neg (by rw [decide_eq_false hq]; decide), if_neg hq]
            exact ⟨by rw [e1], .cons r1 i2⟩
  unfold dPut putK
  rw [hany e]
  split
  · exact hmap e r
  · rw [List.map_append, List.map_append, List.map_append, List.map_append, e]
    exact ⟨rfl, r.append (.cons rv .nil)⟩
end

section
variable {ι : Type} {C : Core} {Rs : ι → Rest} {a b c e o v : Expr} {es : List Expr} {ma mb mc m me mk mv : ME} {mas : MA} {pos : Pos}
theorem upd_set {ρ : VE} {i : Nat} {s : Option Sl} (h : i < ρ.length) : (ρ.set i s)[i]? = some s := List.getElem?_set_self h
def mApnd (i : Nat) (me : ME) : MS := fun ρ => bnd (me ρ) fun r ρ1 => bnd (frz ρ1 r) fun d ρ2 => match mutS ρ2[i]? with
  | some (m, .list ds) => if szOk (ds.length + 1) then some (ρ2.set i (some (Sl.own m (.list (ds ++ [d])))), .nx) else none
  | _ => none
theorem tyV_lst {K : PySem.W.Frag} {H : Hp} {a : Addr} {xs : List V} (h : H a = some (.lst xs)) : tyV K "list" (.ref a) H := .inl ⟨rfl, _, SqL.of h⟩
def isLst : Option (Option Sl) → Bool
  | some (some (Sl.own _ (.list _))) => true
  | _ => false
theorem isLst_at {K : PySem.W.Frag} {A : AS} {σ : L2.St} {ρ : VE} {H : Hp} {i : Nat} (E : EOk K A σ ρ H) (h : isLst ρ[i]? = true) : ∃ a xs, σ[i]? = some (some (V.ref a)) ∧ H a = some (.lst xs) := by
  unfold isLst at h
  split at h
  · rename_i m ds e
    obtain ⟨a, ea, t, _⟩ := E.own i _ _ e
    cases t with
    | lst hH r => exact ⟨a, _, ea, hH⟩
  · cases h
def mMut (i : Nat) (f : List D → List D → Option (List D)) (mas : MA) : ME := fun ρ => if isLst ρ[i]? then bnd (mas ρ) fun rs ρ1 => bnd (frzAll ρ1 rs) fun ds ρ2 => match mutS ρ2[i]? with
  | some (m, .list xs) => obd (f xs ds) fun ys => some (.d .none, ρ2.set i (some (Sl.own m (.list ys))))
  | _ => none else none
def MutV (K : PySem.W.Frag) (r : V → List V → Hp → VK → Prop) (f : List D → List D → Option (List D)) : Prop := ∀ (O : AS) (H : Hp) (a : Addr) (xs : List V) (vs : List V) (ds ws ys : List D) (Q : VK),
  H a = some (.lst xs) → RpA K O H xs ds → RpA K O H vs ws → f ds ws = some ys → (∀ xs', RpA K O H xs' ys → Q .non (upd H a (.lst xs'))) → r (.ref a) vs H Q
theorem se_mut {i : Nat} {x name : PySem.Str} {id : String} {r : V → List V → Hp → VK → Prop} {f : List D → List D → Option (List D)} {apos p : Pos} (slot : Slot "list" name id) (hty : typeOf (.builtin id) = pure (.type "method_descriptor")) (hm : ∀ j, MtR (cx C (Rs j)) id r) (hr : MutV C.K r f)
    (ha : SA C Rs (e :: es) mas) (hp : ∀ (j : ι) (t : TA) (t' : TE), PA (cx C (Rs j)) (e :: es) t → PE (cx C (Rs j)) (.Name x p) t' → MtR (cx C (Rs j)) id r → PE (cx C (Rs j)) (.Call (.Attribute (.Name x p) name apos) (e :: es) [] pos) (tBM C.K "list" r t' t))
    (hN : C.N[i]? = some x := by rfl) (hv : ∀ j, Vis (Rs j).env.scope x := by intro _; first | exact Or.inl rfl | exact Or.inr (Or.inl rfl) | exact Or.inr (Or.inr rfl))
    (hd : (x == ("__debug__" : PySem.Str)) = false := by decide) (hcd : (x == ("__classdict__" : PySem.Str)) = false := by decide) : SE C Rs (.Call (.Attribute (.Name x p) name apos) (e :: es) [] pos) (mMut i f mas) := by
  obtain ⟨t, pa, s⟩ := ha
  refine ⟨_, fun j => hp j t (tVar i) (pa j) (pe_var (X := cx C (Rs j)) hN (hv j) hd hcd) (hm j), fun A σ ρ H rr ρ' Q E e q => ?_⟩
  unfold mMut at e
  split at e
  · rename_i hl
    obtain ⟨rs, ρ1, e1, e⟩ := bnd_some e
    obtain ⟨ds, ρ2, e2, e⟩ := bnd_some e
    split at e
    · rename_i m xs em
      obtain ⟨ys, ey, e⟩ := obd_some e
      cases e
      obtain ⟨a, xs0, ea, hH0⟩ := isLst_at E hl
      refine ⟨_, ea, tyV_lst hH0, s A σ ρ H rs ρ1 _ E e1 fun vs H1 x1 E1 b1 => ?_⟩
      obtain ⟨E2, x2, r2⟩ := frzAll_ok b1 E1 e2
      obtain ⟨a', vs', ea', hH, ra, av, put⟩ := mut_lst E2 em
      rw [ea] at ea'
      cases ea'
      refine hr _ H1 a vs' vs xs ds ys Q hH ra r2 ey fun xs' r' => ?_
      obtain ⟨E3, x3⟩ := put xs' ys r'
      exact q .non _ ((x1.trans x2).trans x3) ⟨E3, .non⟩
    · cases e
  · cases e
def apF (ds ws : List D) : Option (List D) := match ws with | [w] => if szOk (ds.length + 1) then some (ds ++ [w]) else none | _ => none
theorem mv_append {K : PySem.W.Frag} : MutV K rAppend apF := by
  intro O H a xs vs ds ws ys Q hH r rv e q
  unfold apF at e
  split at e
  · split at e
    · rename_i hz
      cases e
      cases rv with
      | cons r1 t =>
        cases t
        have := szOk_le hz
        exact ⟨a, xs, _, rfl, rfl, hH, by rw [r.length]; omega, q _ (r.snoc r1)⟩
    · cases e
  · cases e
def exF (ds ws : List D) : Option (List D) := match ws with | [.list es] => if szOk (ds.length + es.length) then some (ds ++ es) else none | _ => none
theorem mv_extend {K : PySem.W.Frag} : MutV K rExtend exF := by
  intro O H a xs vs ds ws ys Q hH r rv e q
  unfold exF at e
  split at e
  · split at e
    · rename_i hz
      cases e
      cases rv with
      | cons r1 t =>
        cases t
        cases r1 with
        | lst h n r1 => exact ⟨a, _, xs, _, rfl, rfl, hH, h, by rw [r.length, r1.length]; exact szOk_le hz, q _ (r.append r1)⟩
    · cases e
  · cases e
def insF (ds ws : List D) : Option (List D) := match ws with | [.int i, w] => if szOk (ds.length + 1) && decide (0 ≤ i) && decide (i < 1000000) then some (ds.take i.toNat ++ [w] ++ ds.drop i.toNat) else none | _ => none
theorem mv_insert {K : PySem.W.Frag} : MutV K (fun x vs H Q => ∃ (l : Addr) (xs : List V) (i : Int) (y : V), x = .ref l ∧ vs = [.int i, y] ∧ H l = some (.lst xs) ∧ xs.length < sizeLine ∧ 0 ≤ i ∧ i < 2 ^ 63 ∧ Q .non (upd H l (.lst (xs.take i.toNat ++ [y] ++ xs.drop i.toNat)))) insF := by
  intro O H a xs vs ds ws ys Q hH r rv e q
  unfold insF at e
  split at e
  · split at e
    · rename_i hz
      rw [Bool.and_eq_true, Bool.and_eq_true, decide_eq_true_eq, decide_eq_true_eq] at hz
      cases e
      cases rv with
      | cons r1 t =>
        cases t with
        | cons r2 t =>
          cases t
          cases r1
          have := szOk_le hz.1.1
          exact ⟨a, xs, _, _, rfl, rfl, hH, by rw [r.length]; omega, hz.1.2, by omega, q _ (((r.take _).append (.cons r2 .nil)).append (r.drop _))⟩
    · cases e
  · cases e

def putAt (d k v : D) : Option D := match d with
  | .dict ds => if isK ds && (keyK k).isSome && szOk (ds.length + 1) then some (.dict (dPut ds k v)) else none
  | .list ds => match k with
    | .int i => obd (ixN ds.length i) fun j => some (.list (ds.set j v))
    | _ => none
  | _ => none
def ownAny : Option (Option Sl) → Bool
  | some (some (Sl.own _ _)) => true
  | _ => false
theorem ownAny_at {K : PySem.W.Frag} {A : AS} {σ : L2.St} {ρ : VE} {H : Hp} {i : Nat} (E : EOk K A σ ρ H) (h : ownAny ρ[i]? = true) : ∃ a, σ[i]? = some (some (V.ref a)) := by
  unfold ownAny at h
  split at h
  · rename_i m d e
    obtain ⟨a, ea, _⟩ := E.own i _ _ e
    exact ⟨a, ea⟩
  · cases h
def mPut (i : Nat) (mk mv : ME) : MS := fun ρ => bnd (mv ρ) fun r ρ1 => bnd (frz ρ1 r) fun d ρ2 => if ownAny ρ2[i]? then bnd (mk ρ2) fun r' ρ3 => obd (peek ρ3 r') fun k => match mutS ρ3[i]? with
  | some (m, c) => obd (putAt c k d) fun c' => some (ρ3.set i (some (Sl.own m c')), .nx)
  | none => none else none
theorem ps_or {X : Cx} {st : Stmt} {t t' : TS} (h : PS X st t) (h' : PS X st t') : PS X st (fun D σ H => t D σ H ∨ t' D σ H) := ⟨fun pins s σ H D I q => q.elim (h.run pins s σ H D I) (h'.run pins s σ H D I)⟩
theorem var_at {σ : L2.St} {i : Nat} {a : V} {H : Hp} {Q : VK} (h : σ[i]? = some (some a)) (q : Q a H) : tVar i σ H Q := ⟨a, h, q⟩
theorem ss_put (i : Nat) {x : PySem.Str} {pk p2 : Pos} {k : Expr} (hu : C.A.units + 64 < cLine) (hk : SE C Rs k mk) (hv : SE C Rs v mv)
    (hs : ∀ j, swapsWith v (some (.Subscript (.Name x p2) k pk)) pos.line (Rs j).env = pure false := by intro _; rfl) (hs1 : ∀ j, swapsWithSole [.Subscript (.Name x p2) k pk] v pos.line (Rs j).env = pure false := by intro _; rfl) (hw : ∀ j, swappedStores [.Subscript (.Name x p2) k pk] v (Rs j).env = pure none := by intro _; rfl)
    (h1 : ∀ j, (assignEach [.Subscript (.Name x p2) k pk] (Rs j).env).map (·.2) = [assign (.Subscript (.Name x p2) k pk) (Rs j).env] := by intro _; rfl)
    (ha : ∀ j v, assign (.Subscript (.Name x p2) k pk) (Rs j).env v = (do
      let ov ← holding [v] (eval (.Name x p2) (Rs j).env)
      let iv ← holding [v, ov] (eval k (Rs j).env)
      standAt pk
      holding [v, ov, iv] (setItem ov iv v)
      release [v, ov, iv] []) := by intro _ _; rfl)
    (hN : C.N[i]? = some x := by rfl) (hvi : ∀ j, Vis (Rs j).env.scope x := by intro _; first | exact Or.inl rfl | exact Or.inr (Or.inl rfl) | exact Or.inr (Or.inr rfl))
    (hd : (x == ("__debug__" : PySem.Str)) = false := by decide) (hcd : (x == ("__classdict__" : PySem.Str)) = false := by decide) : SS C Rs (.Assign [.Subscript (.Name x p2) k pk] v pos) (mPut i mk mv) := by
  obtain ⟨tk, pK, sk⟩ := hk
  obtain ⟨tv, pV, sv⟩ := hv
  refine ⟨_, fun j => ps_or (ps_dput (X := cx C (Rs j)) (hu1 hu) (pe_var hN (hvi j) hd hcd) (pK j) (pV j) (hs j)) (ps_asg (X := cx C (Rs j)) (pV j) (pg_sub (pe_var hN (hvi j) hd hcd) (pK j) set_list (ha j)) (hs1 j) (hw j) (h1 j)), fun A σ ρ H ρ' f D E e q => ?_⟩
  obtain ⟨r, ρ1, e1, e⟩ := bnd_some e
  obtain ⟨d, ρ2, e2, e⟩ := bnd_some e
  split at e
  · rename_i how
    obtain ⟨r', ρ3, e3, e⟩ := bnd_some e
    obtain ⟨k', e4, e⟩ := obd_some e
    split at e
    · rename_i m c em
      obtain ⟨c', ec, e⟩ := obd_some e
      cases e
      unfold putAt at ec
      split at ec
      · split at ec
        · rename_i ds hc
          rw [Bool.and_eq_true, Bool.and_eq_true] at hc
          cases ec
          obtain ⟨kk, ek⟩ := Option.isSome_iff_exists.mp hc.1.2
          refine .inl (sv.use E e1 fun v H1 x1 E1 b1 => ?_)
          obtain ⟨E2, x2, r2⟩ := frz_ok b1 E1 e2
          obtain ⟨a, ea⟩ := ownAny_at E2 how
          refine ⟨_, ea, sk.use E2 e3 fun y H3 x3 E3 b3 => ?_⟩
          obtain ⟨a', kvs, ea', hH, ek', ra, av, put⟩ := mut_dK E3 em hc.1.1
          rw [ea] at ea'
          cases ea'
          have hy := (b3.peek E3 e4).keyV ek
          subst hy
          have hk' := keyK_some ek
          subst hk'
          obtain ⟨p1, p2⟩ := dPut_ok (k := kk) (x3.rp r2) ek' ra
          have hlen : kvs.length = ds.length := by
            have := congrArg List.length ek'
            simpa using this.symm
          have := szOk_le hc.2
          obtain ⟨E4, x4⟩ := put _ _ p1 p2
          exact ⟨a, _, rfl, .inl ⟨kvs, kk, hH, rfl, by omega, rfl⟩, q σ _ E4 (((x1.trans x2).trans x3).trans x4)⟩
        · cases ec
      · split at ec
        · obtain ⟨j, ej, ec⟩ := obd_some ec
          cases ec
          refine .inr (sv.use E e1 fun v H1 x1 E1 b1 => ?_)
          obtain ⟨E2, x2, r2⟩ := frz_ok b1 E1 e2
          obtain ⟨a, ea⟩ := ownAny_at E2 how
          refine ⟨_, ea, sk.use E2 e3 fun y H3 x3 E3 b3 => ?_⟩
          obtain ⟨a', xs, ea', hH, ra, av, put⟩ := mut_lst E3 em
          rw [ea] at ea'
          cases ea'
          rw [(b3.peek E3 e4).int]
          obtain ⟨E4, x4⟩ := put _ _ (RpA.set (x3.rp r2) j ra)
          exact ⟨a, xs, _, j, rfl, rfl, hH, by rw [ra.length]; exact ej, q σ _ E4 (((x1.trans x2).trans x3).trans x4)⟩
        · cases ec
      · cases ec
    · cases e
  · cases e
def mPutAug (i : Nat) (f : D → D → Option BV) (mk mv : ME) : MS := fun ρ => if ownAny ρ[i]? then bnd (mk ρ) fun r ρ1 => obd (peek ρ1 r) fun k => obd (peek ρ1 (.own i)) fun c => obd (dGetO c k) fun o => obd o fun old => if flat1 old && (keyK k).isSome then
  bnd (mv ρ1) fun r' ρ2 => obd (peek ρ2 r') fun d => obd (f old d) fun b => match b with
    | .d new => if flat1 new then (match mutS ρ2[i]? with
      | some (m, c') => obd (putAt c' k new) fun c'' => if isDct c' then some (ρ2.set i (some (Sl.own m c'')), .nx) else none
      | none => none) else none
    | _ => none else none else none
theorem ss_putAug (i : Nat) {x : PySem.Str} {pk p2 : Pos} {k : Expr} {op : Operator} {rd : V → V → Hp → VK → Prop} {f : D → D → Option BV} (hu : C.A.units + 64 < cLine) (hk : SE C Rs k mk) (hv : SE C Rs v mv) (hop : ∀ j, InOp (cx C (Rs j)) op rd) (hr : OpV C.K rd f)
    (ha : ∀ ov iv new, augStore k ov iv new = (do holding [new, ov, iv] (setItem ov iv new); release [new, ov, iv] []; pure .next) := by intros; rfl)
    (hN : C.N[i]? = some x := by rfl) (hvi : ∀ j, Vis (Rs j).env.scope x := by intro _; first | exact Or.inl rfl | exact Or.inr (Or.inl rfl) | exact Or.inr (Or.inr rfl))
    (hd : (x == ("__debug__" : PySem.Str)) = false := by decide) (hcd : (x == ("__classdict__" : PySem.Str)) = false := by decide) : SS C Rs (.AugAssign (.Subscript (.Name x p2) k pk) op v pos) (mPutAug i f mk mv) := by
  obtain ⟨tk, pK, sk⟩ := hk
  obtain ⟨tv, pV, sv⟩ := hv
  refine ⟨_, fun j => ps_daug (X := cx C (Rs j)) (hu1 hu) (pe_var hN (hvi j) hd hcd) (pK j) (pV j) (hop j) ha, fun A σ ρ H ρ' f' D E e q => ?_⟩
  unfold mPutAug at e
  split at e
  · rename_i how
    obtain ⟨r, ρ1, e1, e⟩ := bnd_some e
    obtain ⟨k', e2, e⟩ := obd_some e
    obtain ⟨c, e3, e⟩ := obd_some e
    obtain ⟨o, e4, e⟩ := obd_some e
    obtain ⟨old, e5, e⟩ := obd_some e
    split at e
    · rename_i hfl
      rw [Bool.and_eq_true] at hfl
      obtain ⟨kk, ek⟩ := Option.isSome_iff_exists.mp hfl.2
      obtain ⟨r', ρ2, e6, e⟩ := bnd_some e
      obtain ⟨d, e7, e⟩ := obd_some e
      obtain ⟨b, e8, e⟩ := obd_some e
      split at e
      · rename_i new
        split at e
        · rename_i hfn
          split at e
          · rename_i m c' em
            obtain ⟨c'', ec, e⟩ := obd_some e
            split at e
            · rename_i hdc
              cases e
              obtain ⟨a, ea⟩ := ownAny_at E how
              refine ⟨_, ea, sk.use E e1 fun y H1 x1 E1 b1 => ?_⟩
              have bo : BR C.K A σ ρ1 H1 (.ref a) (.own i) := ea
              obtain ⟨a', g, hag, _, g0, g1, _⟩ := dGetO_ok (bo.peek E1 e3) (b1.peek E1 e2) e4
              cases hag
              obtain ⟨vo, rfl, rvo⟩ := g1 old e5
              refine ⟨a, vo, rfl, g0, sv.use E1 e6 fun y2 H2 x2 E2 b2 => ?_⟩
              refine hr _ H2 vo y2 old d _ _ (fun b => E2.there) (.inl (rvo.flat hfl.1)) (b2.peek E2 e7) e8 fun z H3 g3 vr => ?_
              have x3 : Ext σ ρ2 H2 σ ρ2 H3 := .grow g3
              have E3 : EOk C.K A σ ρ2 H3 := E2.grow g3 fun b z => .inl z
              have rz : Rp C.K (Av A σ ρ2) H3 z new := vr
              unfold putAt at ec
              cases c' with
              | dict ds =>
                replace ec : (if isK ds && (keyK k').isSome && szOk (ds.length + 1) then some (PyData.dict (dPut ds k' new)) else none) = some c'' := ec
                split at ec
                · rename_i hc
                  rw [Bool.and_eq_true, Bool.and_eq_true] at hc
                  cases ec
                  obtain ⟨a', kvs, ea', hH, ek', ra, av, put⟩ := mut_dK E3 em hc.1.1
                  rw [ea] at ea'
                  cases ea'
                  have hy := (b1.peek E1 e2).keyV ek
                  subst hy
                  have hk' := keyK_some ek
                  subst hk'
                  obtain ⟨p1, p2⟩ := dPut_ok (k := kk) rz ek' ra
                  have hlen : kvs.length = ds.length := by
                    have := congrArg List.length ek'
                    simpa using this.symm
                  have := szOk_le hc.2
                  obtain ⟨E4, x4⟩ := put _ _ p1 p2
                  exact ⟨_, .inl ⟨kvs, kk, hH, rfl, by omega, rfl⟩, q σ _ E4 (((x1.trans x2).trans x3).trans x4)⟩
                · cases ec
              | none => cases hdc
              | bool _ => cases hdc
              | int _ => cases hdc
              | str _ => cases hdc
              | list _ => cases hdc
              | tuple _ => cases hdc
            · cases e
          · cases e
        · cases e
      · cases e
    · cases e
  · cases e
theorem ov_addI {K : PySem.W.Frag} : OpV K rAdd iAdd := ov_add
theorem ov_subI {K : PySem.W.Frag} : OpV K rSub iSub := ov_sub
end
end Nb

namespace Nb
open PySem PySem.Spec PyProof.Rows L2

abbrev MPs := VE → Option (List (D × D) × VE)
def pNil : MPs := fun ρ => some ([], ρ)
def pCons (mk mv : ME) (mr : MPs) : MPs := fun ρ => bnd (mk ρ) fun b ρ1 => obd (peek ρ1 b) fun k => if (keyK k).isSome then bnd (mv ρ1) fun r ρ2 => bnd (frz ρ2 r) fun d ρ3 => bnd (mr ρ3) fun ds ρ4 => some ((k, d) :: ds, ρ4) else none
def SndPs (K : PySem.W.Frag) (trs : List (TE × TE)) (m : MPs) : Prop := ∀ (A : AS) (σ : L2.St) (ρ : VE) (H : Hp) (ds : List (D × D)) (ρ' : VE) (Q : List (V × V) → Hp → Prop),
  EOk K A σ ρ H → m ρ = some (ds, ρ') → (∀ (kvs : List (Key × V)) (H' : Hp), Ext σ ρ H σ ρ' H' → EOk K A σ ρ' H' → ds.map (·.1) = kvs.map (fun p => kD p.1) → RpA K (Av A σ ρ') H' (kvs.map (·.2)) (ds.map (·.2)) → Q (kvs.map (fun kv => (kV kv.1, kv.2))) H') → tPairs trs σ H Q
def SPs {ι : Type} (C : Core) (Rs : ι → Rest) (pos : Pos) (ks : List (Option Expr)) (vs : List Expr) (m : MPs) : Prop := ∃ trs, (∀ i, PPs (cx C (Rs i)) pos ks vs trs) ∧ SndPs C.K trs m
def mDct (m : MPs) : ME := fun ρ => bnd (m ρ) fun ds ρ1 => if ds.length ≤ 15 then some (.new (.dict (ds.foldl (fun acc p => dPut acc p.1 p.2) [])), ρ1) else none
section
variable {ι : Type} {C : Core} {Rs : ι → Rest} {k v : Expr} {ks : List (Option Expr)} {vs : List Expr} {mk mv : ME} {m mr : MPs} {pos : Pos}
theorem sp_nil : SPs C Rs pos [] [] pNil := ⟨[], fun _ => pps_nil, fun A σ ρ H ds ρ' Q E e q => by
  cases e
  exact q [] H .refl E rfl .nil⟩
theorem sp_cons (hk : SE C Rs k mk) (hv : SE C Rs v mv) (hr : SPs C Rs pos ks vs mr) : SPs C Rs pos (some k :: ks) (v :: vs) (pCons mk mv mr) := by
  obtain ⟨t1, p1, s1⟩ := hk
  obtain ⟨t2, p2, s2⟩ := hv
  obtain ⟨t3, p3, s3⟩ := hr
  refine ⟨(t1, t2) :: t3, fun i => pps_cons (p1 i) (p2 i) (p3 i), fun A σ ρ H ds ρ' Q E e q => ?_⟩
  obtain ⟨b, ρ1, e1, e⟩ := bnd_some e
  obtain ⟨kd, e2, e⟩ := obd_some e
  split at e
  · rename_i hkk
    obtain ⟨r, ρ2, e3, e⟩ := bnd_some e
    obtain ⟨d, ρ3, e4, e⟩ := bnd_some e
    obtain ⟨ds', ρ4, e5, e⟩ := bnd_some e
    cases e
    obtain ⟨kk, ek⟩ := Option.isSome_iff_exists.mp hkk
    refine s1.use E e1 fun x H1 x1 E1 b1 => ?_
    have hx := (b1.peek E1 e2).keyV ek
    refine s2.use E1 e3 fun y H2 x2 E2 b2 => ?_
    obtain ⟨E3, x3, r3⟩ := frz_ok b2 E2 e4
    refine s3 A σ ρ3 H2 ds' ρ' _ E3 e5 fun kvs H3 x4 E4 hd hr => ?_
    have := q ((kk, y) :: kvs) H3 (((x1.trans x2).trans x3).trans x4) E4 (by
      rw [List.map_cons, List.map_cons, hd, keyK_some ek]) (.cons (x4.rp r3) hr)
    rw [List.map_cons] at this
    rw [hx]
    exact this
  · cases e
theorem merge_ok {K : PySem.W.Frag} {O : AS} {H : Hp} : ∀ {ds : List (D × D)} {kvs : List (Key × V)} {es : List (D × D)} {lvs : List (Key × V)}, ds.map (·.1) = kvs.map (fun p => kD p.1) → RpA K O H (kvs.map (·.2)) (ds.map (·.2)) →
    es.map (·.1) = lvs.map (fun p => kD p.1) → RpA K O H (lvs.map (·.2)) (es.map (·.2)) →
    (ds.foldl (fun acc p => dPut acc p.1 p.2) es).map (·.1) = (mergeK lvs kvs).map (fun p => kD p.1) ∧ RpA K O H ((mergeK lvs kvs).map (·.2)) ((ds.foldl (fun acc p => dPut acc p.1 p.2) es).map (·.2))
  | [], [], es, lvs, _, _, h3, h4 => ⟨h3, h4⟩
  | [], _ :: _, _, _, h, _, _, _ => by cases h
  | _ :: _, [], _, _, h, _, _, _ => by cases h
  | d :: ds, p :: kvs, es, lvs, h1, h2, h3, h4 => by
    rw [List.map_cons, List.map_cons] at h1
    injection h1 with h1 h1'
    rw [List.map_cons, List.map_cons] at h2
    cases h2 with
    | cons r h2 =>
      obtain ⟨g1, g2⟩ := dPut_ok (k := p.1) r h3 h4
      rw [← h1] at g1 g2
      exact merge_ok (ds := ds) (kvs := kvs) h1' h2 g1 g2
theorem snd_dct {K : PySem.W.Frag} {trs : List (TE × TE)} (s : SndPs K trs m) : Snd K (tDisp trs) (mDct m) := by
  intro A σ ρ H r ρ' Q E e q
  obtain ⟨ds, ρ1, e1, e⟩ := bnd_some e
  split at e
  · rename_i hz
    cases e
    intro p hp
    have E0 : EOk K (add A p) σ ρ (upd H p (.dK [])) := E.grow (Gr.upd hp) fun b z => z.elim .inl fun z => .inr ⟨z ▸ hp, z ▸ ⟨_, upd_same⟩⟩
    have x0 : Ext σ ρ H σ ρ (upd H p (.dK [])) := .grow (Gr.upd hp)
    refine s (add A p) σ ρ _ ds ρ' _ E0 e1 fun kvs H2 x1 E1 hd hr => ?_
    have nm : ¬ MOwn σ ρ p := fun z => by
      obtain ⟨o, eo⟩ := E.there (.inr z.own)
      rw [hp] at eo; cases eo
    have e2 : H2 p = some (.dK []) := x1.keep p _ upd_same nm
    refine ⟨e2, kvs, rfl, by
      have : ds.length = kvs.length := by
        have := congrArg List.length hd
        rwa [List.length_map, List.length_map] at this
      omega, ?_⟩
    obtain ⟨g1, g2⟩ := merge_ok hd hr (es := []) (lvs := []) rfl .nil
    have av : Av (add A p) σ ρ' p := .inl (.inr rfl)
    have no : ¬ Own σ ρ' p := fun z => by
      obtain ⟨i, m', d', ei, es⟩ := z
      obtain ⟨a, ea, _, na, _⟩ := E1.own i m' d' ei
      rw [es] at ea
      cases ea
      exact na (.inr rfl)
    have st : Stay (Av (add A p) σ ρ') H2 (Av (add A p) σ ρ') (upd H2 p (.dK (mergeK [] kvs))) := upd_stay av
    have E3 : EOk K (add A p) σ ρ' (upd H2 p (.dK (mergeK [] kvs))) := by
      refine ⟨E1.len, fun b z => ?_, fun i d ei => ?_, fun i m' d ei => ?_, E1.fv, E1.inj⟩
      · by_cases hb : b = p
        · exact ⟨.dK (mergeK [] kvs), by rw [hb]; exact upd_same⟩
        · obtain ⟨o, eo⟩ := E1.dom b z
          exact ⟨o, by rw [upd_ne hb]; exact eo⟩
      · obtain ⟨v, ev, rv⟩ := E1.sh i d ei
        exact ⟨v, ev, rv.mono st⟩
      · obtain ⟨a, ea, t, na, nf⟩ := E1.own i m' d ei
        have hap : a ≠ p := fun z => na (.inr z)
        exact ⟨a, ea, t.mono st (fun o e => .inl (by rw [upd_ne hap]; exact e)), na, fun hm q u z => nf hm q u (by rw [upd_ne hap] at z; exact z)⟩
    have xf : Ext σ ρ H σ ρ' (upd H2 p (.dK (mergeK [] kvs))) := by
      have x01 := x0.trans x1
      refine ⟨fun b o eb nb => ?_, fun b o eb => ?_, x01.own, x01.mown, x01.io⟩
      · have hb : b ≠ p := fun z => by rw [z, hp] at eb; cases eb
        rw [upd_ne hb]
        exact x01.keep b o eb nb
      · by_cases hb : b = p
        · exact ⟨.dK (mergeK [] kvs), by rw [hb]; exact upd_same⟩
        · obtain ⟨o', eo⟩ := x01.there b o eb
          exact ⟨o', by rw [upd_ne hb]; exact eo⟩
    refine q _ _ xf ⟨p, rfl, hp, E3, .dK (.inl upd_same) g1 (g2.mono st), nofrz_dK, fun z => z.elim (fun z => ?_) no⟩
    obtain ⟨o, eo⟩ := E.dom p z
    rw [hp] at eo; cases eo
  · cases e
theorem se_dct (h : SPs C Rs pos ks vs m) (hall : ks.all (·.isSome) = true := by rfl) (hl : ks.length = vs.length := by rfl) (h0 : ks ≠ [] := by intro z; cases z) (h15 : ks.length ≤ 15 := by decide) : SE C Rs (.Dict ks vs pos) (mDct m) := by
  obtain ⟨trs, p, s⟩ := h
  exact ⟨_, fun i => pe_disp (p i) hall hl h0 h15, snd_dct s⟩
theorem se_dct0 : SE C Rs (.Dict [] [] pos) (mDct pNil) := by
  refine ⟨_, fun i => pe_dnewK, fun A σ ρ H r ρ' Q E e q => ?_⟩
  refine snd_dct (trs := []) (m := pNil) (fun A σ ρ H ds ρ' Q E e q => by cases e; exact q [] H .refl E rfl .nil) A σ ρ H r ρ' _ E e (fun v H' x rs => q v H' x rs) |> fun h => ?_
  intro p hp
  obtain ⟨_, kvs, ek, _, qq⟩ := h p hp
  cases kvs with
  | nil =>
    have : upd (upd H p (.dK [])) p (.dK (mergeK [] [])) = upd H p (.dK []) := by
      funext b
      by_cases hb : b = p
      · rw [hb, upd_same, upd_same]; rfl
      · rw [upd_ne hb]
    rw [this] at qq
    exact qq
  | cons _ _ => cases ek
end
end Nb

namespace Nb
open PySem PySem.Spec PyProof.Rows L2

def normR (r : BV) (ρ : VE) : Option (BV × VE) := match r with
  | .own k => bnd (frz ρ (.own k)) fun d ρ' => some (.d d, ρ')
  | r => some (r, ρ)
def mPL : List Nat → List ME → VE → Option VE
  | i :: is, m :: ms, ρ => bnd (m ρ) fun r ρ1 => bnd (normR r ρ1) fun r' ρ2 => obd (mPL is ms ρ2) fun ρ3 => setR i r' ρ3
  | [], [], ρ => some ρ
  | _, _, _ => none
def setAll : L2.St → List Nat → List V → L2.St
  | σ, i :: is, v :: vs => (setAll σ is vs).set i (some v)
  | σ, _, _ => σ
def SPar (K : PySem.W.Frag) (ta : TA) (is : List Nat) (ms : List ME) : Prop := ∀ (A : AS) (σ : L2.St) (ρ : VE) (H : Hp) (ρ' : VE) (Q : List V → Hp → Prop),
  EOk K A σ ρ H → mPL is ms ρ = some ρ' → (∀ (vs : List V) (H' : Hp), vs.length = is.length → EOk K A (setAll σ is vs) ρ' H' → Ext σ ρ H (setAll σ is vs) ρ' H' → Q vs H') → ta σ H Q
def SR {ι : Type} (C : Core) (Rs : ι → Rest) (es : List Expr) (is : List Nat) (ms : List ME) : Prop := ∃ t, (∀ i, PA (cx C (Rs i)) es t) ∧ SPar C.K t is ms
section
variable {ι : Type} {C : Core} {Rs : ι → Rest} {a b c e : Expr} {es : List Expr} {me : ME} {ms : List ME} {is : List Nat} {i j l : Nat} {pos : Pos}
theorem sr_nil : SR C Rs [] [] [] := ⟨_, fun _ => pa_nil, fun A σ ρ H ρ' Q E e q => by
  cases e
  exact q [] H rfl E .refl⟩
theorem sr_cons (he : SE C Rs e me) (hr : SR C Rs es is ms) (hs : ∀ i, starEach (e :: es) (Rs i).env = (false, eval e (Rs i).env) :: starEach es (Rs i).env := by intro _; rfl) : SR C Rs (e :: es) (i :: is) (me :: ms) := by
  obtain ⟨t, p, s⟩ := he
  obtain ⟨t', p', s'⟩ := hr
  refine ⟨_, fun i => pa_cons (X := cx C (Rs i)) (p i) (p' i) (hs i), fun A σ ρ H ρ' Q E e q => ?_⟩
  obtain ⟨r, ρ1, e1, e⟩ := bnd_some e
  obtain ⟨r', ρ2, e2, e⟩ := bnd_some e
  obtain ⟨ρ3, e3, e9⟩ := obd_some e
  clear e
  refine s A σ ρ H r ρ1 _ E e1 fun v H1 x1 rs => ?_
  have plain : ∀ {ρ2 : VE} {d : D} {r' : BV}, r' = .d d → EOk C.K A σ ρ2 H1 → Ext σ ρ H σ ρ2 H1 → Rp C.K (Av A σ ρ2) H1 v d → mPL is ms ρ2 = some ρ3 → setR i r' ρ3 = some ρ' → t' σ H1 fun vs H' => Q (v :: vs) H' := fun {ρ2 d r'} er E2 x2 rp e3 e => by
    subst er
    refine s' A σ ρ2 H1 ρ3 _ E2 e3 fun vs H2 hl E3 x3 => ?_
    obtain ⟨E4, x4⟩ := set_res (H := H) (r := .d d) (v := v) (x2.trans x3) ⟨E3, x3.rp rp⟩ e
    exact q (v :: vs) H2 (by rw [List.length_cons, List.length_cons, hl]) E4 x4
  cases r with
  | d x =>
    cases e2
    exact plain rfl rs.1 x1 rs.2 e3 e9
  | own k =>
    obtain ⟨d, ρ2', e4, e2⟩ := bnd_some e2
    cases e2
    obtain ⟨E2, x2, r2⟩ := frz_ok (r := .own k) rs.2 rs.1 e4
    exact plain rfl E2 (x1.trans x2) r2 e3 e9
  | fn f =>
    cases e2
    obtain ⟨E1, rfl⟩ := rs
    refine s' A σ ρ1 H1 ρ3 _ E1 e3 fun vs H2 hl E3 x3 => ?_
    obtain ⟨E4, x4⟩ := set_res (H := H) (r := .fn f) (v := .ref f) (x1.trans x3) ⟨E3, rfl⟩ e9
    exact q (_ :: vs) H2 (by rw [List.length_cons, List.length_cons, hl]) E4 x4
  | new x =>
    cases e2
    obtain ⟨a, rfl, hn, E1, t1, nf, na⟩ := rs
    refine s' (add A a) σ ρ1 H1 ρ3 _ E1 e3 fun vs H2 hl E3 x3 => ?_
    have nm : ¬ MOwn σ ρ1 a := fun z => na (.inr z.own)
    have keep : ∀ o, H1 a = some o → H2 a = some o := fun o eo => x3.keep a o eo nm
    have no : ¬ Own (setAll σ is vs) ρ3 a := fun z => by
      obtain ⟨j, m', d', ej, es⟩ := z
      obtain ⟨a', ea, _, na', _⟩ := E3.own j m' d' ej
      rw [es] at ea
      cases ea
      exact na' (.inr rfl)
    obtain ⟨o, eo⟩ := t1.there
    obtain ⟨E4, x4⟩ := set_res (H := H) (r := .new x) (v := .ref a) (x1.trans x3) ⟨a, rfl, hn, E3, t1.mono x3.stay (fun o e => .inl (keep o e)), fun q u z => by
      rw [keep o eo] at z
      cases z
      exact nf q u eo, fun z => z.elim (fun z => na (.inl z)) no⟩ e9
    exact q (_ :: vs) H2 (by rw [List.length_cons, List.length_cons, hl]) E4 x4
def mPar (is : List Nat) (ms : List ME) : MS := fun ρ => obd (mPL is ms ρ) fun ρ' => some (ρ', .nx)
theorem ss_par {x y : PySem.Str} {px py pt : Pos} {kt k2 pt2} (hr : SR C Rs [a, b] [i, j] ms) (hN : C.N.Nodup) (hi : C.N[i]? = some x := by rfl) (hj : C.N[j]? = some y := by rfl) (hij : i ≠ j := by decide)
    (hx : ∀ k, (Rs k).env.scope.names.lookup x = some .local := by intro _; rfl) (hy : ∀ k, (Rs k).env.scope.names.lookup y = some .local := by intro _; rfl)
    (hw : ∀ k, swappedStores [.Tuple [.Name x px, .Name y py] kt pt] (.Tuple [a, b] k2 pt2) (Rs k).env = pure (some [x, y]) := by intro _; rfl)
    (hs : ∀ k, swapsWithSole [.Tuple [.Name x px, .Name y py] kt pt] (.Tuple [a, b] k2 pt2) pos.line (Rs k).env = pure false := by intro _; rfl) :
    SS C Rs (.Assign [.Tuple [.Name x px, .Name y py] kt pt] (.Tuple [a, b] k2 pt2) pos) (mPar [i, j] ms) := by
  obtain ⟨t, p, s⟩ := hr
  refine ⟨_, fun k => ps_par (X := cx C (Rs k)) rfl hN hi hj hij (hx k) (hy k) (p k) (hw k) (hs k), fun A σ ρ H ρ' f D E e q => ?_⟩
  obtain ⟨ρ1, e1, e⟩ := obd_some e
  cases e
  refine s A σ ρ H ρ' _ E e1 fun vs H' hl E' x' => ?_
  match vs, hl with
  | [v, w], _ =>
    refine ⟨v, w, rfl, ?_⟩
    rw [List.set_comm _ _ hij]
    exact q _ _ E' x'
theorem ss_par3 {x y z : PySem.Str} {px py pz pt : Pos} {kt k2 pt2} (hr : SR C Rs [a, b, c] [i, j, l] ms) (hN : C.N.Nodup) (hi : C.N[i]? = some x := by rfl) (hj : C.N[j]? = some y := by rfl) (hl : C.N[l]? = some z := by rfl) (hij : i ≠ j := by decide) (hil : i ≠ l := by decide) (hjl : j ≠ l := by decide)
    (hx : ∀ k, (Rs k).env.scope.names.lookup x = some .local := by intro _; rfl) (hy : ∀ k, (Rs k).env.scope.names.lookup y = some .local := by intro _; rfl) (hz : ∀ k, (Rs k).env.scope.names.lookup z = some .local := by intro _; rfl)
    (hw : ∀ k, swappedStores [.Tuple [.Name x px, .Name y py, .Name z pz] kt pt] (.Tuple [a, b, c] k2 pt2) (Rs k).env = pure (some [x, y, z]) := by intro _; rfl)
    (hs : ∀ k, swapsWithSole [.Tuple [.Name x px, .Name y py, .Name z pz] kt pt] (.Tuple [a, b, c] k2 pt2) pos.line (Rs k).env = pure false := by intro _; rfl) :
    SS C Rs (.Assign [.Tuple [.Name x px, .Name y py, .Name z pz] kt pt] (.Tuple [a, b, c] k2 pt2) pos) (mPar [i, j, l] ms) := by
  obtain ⟨t, p, s⟩ := hr
  refine ⟨_, fun k => ps_par3 (X := cx C (Rs k)) rfl hN hi hj hl hij hil hjl (hx k) (hy k) (hz k) (p k) (hw k) (hs k), fun A σ ρ H ρ' f D E e q => ?_⟩
  obtain ⟨ρ1, e1, e⟩ := obd_some e
  cases e
  refine s A σ ρ H ρ' _ E e1 fun vs H' hl' E' x' => ?_
  match vs, hl' with
  | [u, v, w], _ =>
    refine ⟨u, v, w, rfl, ?_⟩
    have eq : (((σ.set i (some u)).set j (some v)).set l (some w)) = setAll σ [i, j, l] [u, v, w] := by
      show _ = ((σ.set l (some w)).set j (some v)).set i (some u)
      rw [List.set_comm _ _ hjl, List.set_comm (i := i) (j := l) _ _ hil, List.set_comm (i := i) (j := j) _ _ hij]
    rw [eq]
    exact q _ _ E' x'
end
end Nb

namespace Nb
open PySem PySem.Spec PyProof.Rows L2

def repD (d e : D) : Option BV := match d, e with
  | .str x, .int n => if decide (n < 1) && decide (-1000000 < n) then some (.d (.str PySem.Str.empty)) else if n == 1 then some (.d (.str x)) else none
  | _, _ => none
def rRepS : R2 := fun x y H Q => ∃ (a : PySem.Str) (n : Int), x = .str a ∧ y = .int n ∧ ((n < 1 ∧ -1000000 < n ∧ Q (.str PySem.Str.empty) H) ∨ (n = 1 ∧ Q (.str a) H))
theorem op_repS {X : Cx} : OpR X (binaryOp .Mult) rRepS := by
  intro pins s σ H x y v u Q I rx ry h
  obtain ⟨a, n, rfl, rfl, h⟩ := h
  obtain ⟨t, rfl⟩ := rx
  obtain ⟨t', rfl⟩ := ry
  rcases h with ⟨h1, h2, q⟩ | ⟨rfl, q⟩
  · exact PySem.P.mul_str_none h1 (by omega) ⟨.str PySem.Str.empty, H, I.tok _, ⟨_, rfl⟩, q⟩
  · refine PySem.P.mul_str (by decide) (fun _ h => by simp at h) (fun _ h => by simp at h) ?_
    exact ⟨.str a, H, I, ⟨t, rfl⟩, q⟩
theorem ov_repS {K : PySem.W.Frag} : OpV K rRepS repD := by
  intro O H x y d e b Q hO px py ef q
  unfold repD at ef
  split at ef
  · split at ef
    · rename_i hc
      rw [Bool.and_eq_true, decide_eq_true_eq, decide_eq_true_eq] at hc
      cases ef
      exact ⟨_, _, px.str, py.int, .inl ⟨hc.1, hc.2, q _ _ .refl (.str _)⟩⟩
    · split at ef
      · rename_i hc
        cases ef
        exact ⟨_, _, px.str, py.int, .inr ⟨by simpa using hc, q _ _ .refl (.str _)⟩⟩
      · cases ef
  · cases ef
def intD2 : List D → Option BV
  | [.str a] => if decide (a.length ≤ 640) then obd (PySem.intText? a) fun n => some (.d (.int n)) else none
  | ds => intD ds
theorem cv_int2 {K : PySem.W.Frag} : CallV K (fun xs H Q => ((∃ i, xs = [.int i] ∧ Q (.int i) H) ∨ ∃ k, xs = [.bl k] ∧ Q (.int (if k then 1 else 0)) H) ∨ (∃ a n, xs = [.str a] ∧ PySem.intText? a = some n ∧ a.length ≤ 640 ∧ Q (.int n) H)) intD2 := by
  intro O H xs ds b Q hO px ef q
  unfold intD2 at ef
  split at ef
  · split at ef
    · rename_i hl
      obtain ⟨n, en, ef⟩ := obd_some ef
      cases ef
      obtain ⟨v, rfl, p⟩ := px.one
      rw [p.str]
      exact .inr ⟨_, n, rfl, en, of_decide_eq_true hl, q _ _ .refl (.int _)⟩
    · cases ef
  · exact .inl (cv_int O H xs _ b Q hO px ef q)
theorem rpA_strs {K : PySem.W.Frag} {O : AS} {H : Hp} : ∀ ys : List PySem.Str, RpA K O H (ys.map V.str) (ys.map PyData.str)
  | [] => .nil
  | y :: ys => .cons (.str y) (rpA_strs ys)
def strO : D → Option PySem.Str | .str x => some x | _ => none
theorem strO_some {d : D} {x : PySem.Str} (h : strO d = some x) : d = .str x := by
  cases d <;> cases h
  rfl
def mSplit (mo me : ME) : ME := fun ρ => bnd (mo ρ) fun r1 ρ1 => obd (peek ρ1 r1) fun d => obd (strO d) fun a => bnd (me ρ1) fun r2 ρ2 => obd (peek ρ2 r2) fun e => obd (strO e) fun b => if (!(b.length == 0)) && szOk (a.length + 2) then some (.new (.list ((Txt.split a b).map PyData.str)), ρ2) else none
section
variable {ι : Type} {C : Core} {Rs : ι → Rest} {a b c e o : Expr} {ma mb me mo : ME} {pos : Pos}
theorem se_repS (ha : SE C Rs a ma) (hb : SE C Rs b mb) : SE C Rs (.BinOp a .Mult b pos) (mBin repD ma mb) := se_bin (fun _ => op_repS) ov_repS ha hb
theorem se_split {apos : Pos} (ho : SE C Rs o mo) (he : SE C Rs e me) (hs : ∀ i, starEach [e] (Rs i).env = [(false, eval e (Rs i).env)] := by intro _; rfl) (hbase : ∀ i, attributeBase o "split" (Rs i).env (eval o (Rs i).env) = eval o (Rs i).env := by intro _; rfl) (hline : (apos.endLine == pos.line) = true := by rfl) :
    SE C Rs (.Call (.Attribute o "split" apos) [e] [] pos) (mSplit mo me) := by
  obtain ⟨t1, p1, s1⟩ := ho
  obtain ⟨t2, p2, s2⟩ := he
  refine ⟨_, fun i => pe_split (X := cx C (Rs i)) (p1 i) (p2 i) (hs i) (hbase i) hline, fun A σ ρ H r ρ' Q E e q => ?_⟩
  obtain ⟨r1, ρ1, e1, e⟩ := bnd_some e
  obtain ⟨d, e2, e⟩ := obd_some e
  obtain ⟨a, e3, e⟩ := obd_some e
  obtain ⟨r2, ρ2, e4, e⟩ := bnd_some e
  obtain ⟨d2, e5, e⟩ := obd_some e
  obtain ⟨b, e6, e9⟩ := obd_some e
  clear e
  cases strO_some e3
  cases strO_some e6
  split at e9
  · rename_i hc
    rw [Bool.and_eq_true] at hc
    cases e9
    refine s1.use E e1 fun x H1 x1 E1 b1 => ?_
    have hx := (b1.peek E1 e2).str
    refine ⟨⟨a, hx⟩, s2.use E1 e4 fun y H2 x2 E2 b2 => ?_⟩
    have hy := (b2.peek E2 e5).str
    refine ⟨a, b, hx, by rw [hy], by simpa using hc.1, szOk_le hc.2, fun p hp => ?_⟩
    have x12 := x1.trans x2
    obtain ⟨x3, rr⟩ := VRes.lift (H₀ := H) E2 (.upd hp) (vnew_lst hp (rpA_strs _)) (res_start x12)
    exact q _ _ (x12.trans x3) rr
  · cases e9
def chs (x : PySem.Str) : List D := x.cps.toList.map fun c => PyData.str ⟨#[c]⟩
def iTxt (me : ME) : MI := fun ρ => bnd (me ρ) fun r ρ1 => obd (peek ρ1 r) fun d => obd (strO d) fun x => some (chs x, ρ1)
theorem it_str {K : PySem.W.Frag} {O₀ : AS} {H₀ : Hp} (x : PySem.Str) : ItOk K O₀ H₀ (Its x) (chs x) := by
  intro O H hO hs i
  have hl : (chs x).length = x.cps.size := by unfold chs; simp
  have hg : (chs x)[i]? = (x.cps[i]?).map fun c => PyData.str ⟨#[c]⟩ := by unfold chs; simp
  refine ⟨fun d hd => ?_, fun h => by rw [hl] at h; exact h⟩
  rw [hg] at hd
  refine ⟨by
    have : i < (chs x).length := (List.getElem?_eq_some_iff.mp (hg.trans hd)).1
    rw [hl] at this
    exact this, fun v H2 hy => ?_⟩
  obtain ⟨rfl, c, hc, rfl⟩ := hy
  rw [hc] at hd
  cases hd
  exact ⟨.refl, .str _⟩
theorem SI_txt {tg : Expr} (he : SE C Rs e me) : SI C Rs tg e (iTxt me) := by
  obtain ⟨t, p, s⟩ := he
  refine ⟨_, fun i => pi_str (X := cx C (Rs i)) (p i), fun A σ ρ H ds ρ' R E e q => ?_⟩
  obtain ⟨r, ρ1, e1, e⟩ := bnd_some e
  obtain ⟨d, e2, e⟩ := obd_some e
  obtain ⟨x, e3, e⟩ := obd_some e
  have es := strO_some e3
  subst es
  cases e
  refine s.use E e1 fun y H1 x1 E1 b1 => ?_
  exact ⟨x, (b1.peek E1 e2).str, q _ H1 x1 E1 (it_str x)⟩
end
end Nb

namespace Nb
open PySem PySem.Spec PyProof.Rows L2

section
variable {P : Program} {w : World} {A : Around} {E : Value → Shared → Prop} {s : Shared}
abbrev emp (w : World) : Obj := { cls := .type "set", dict := none, data := .set #[] 0 (.fresh 0 0 (!w.params.followText "set-order")) }
abbrev grown (w : World) (s : Shared) : Shared := { s with heap := s.heap.push (emp w) }
set_option maxHeartbeats 3200000 in
theorem set_of_list {p : Addr} {vals : Array Value} {Q : Value → Shared → Prop} (ks : List Int) (clear : A.handled = none) (isl : s.heap.IsList p vals) (areI : IntsAre vals.toList ks) (few : ks.length + 1 < scanBound)
    (post : ∀ (g : Heap) (tk c : Nat), SetR w g s.heap.objs.size (fun j => decide (j ∈ ks)) c → c ≤ ks.length → (∀ b o, s.heap.get? b = some o → g.get? b = some o) → Q (.ref s.heap.objs.size) { s with heap := g, toks := tk }) :
    wpAny (model P w) A (call (.type "set") [.ref p]) Q E s := by
  have size : vals.size = ks.length := by rw [← IntsAre.length areI, Array.length_toList]
  obtain ⟨m1, m2, mro⟩ := F.called_set.mro
  have made := F.called_set.made
  have sub := F.called_set.sub
  have notT := F.called_set.notType
  have canC := F.called_set.canCreate
  have one := F.typeCall_set_1 (.ref p)
  refine wpAny_call (codeAny_of_tree (show wpAny _ _ (callAny (.type "set") _) _ _ _ from wpAny_pure ⟨Code.quiet_builtin _ (by decide +kernel), codeAny_builtin F.entry_type_call ?_⟩))
  rw [Around.under_plain (weight_type_call_type "set" [.ref p] []) rfl]
  repeat (any_goals (first | assumption | wp_step))
  refine codeAny_mono (code_set_led1 (.ref p) (E := E) (Q₁ := fun r s1 => r = .ref s.heap.objs.size ∧ s1 = grown w s) ⟨rfl, rfl⟩) fun r s1 hr => ?_
  cases r with
  | error e => exact hr
  | ok fl =>
    cases fl with
    | ret obj =>
      obtain ⟨rfl, rfl⟩ := hr
      have at0 : (s.heap.push (emp w)).get? s.heap.objs.size = some (emp w) := Heap.get?_push_size _ rfl
      have ty : Shared.TypeIs (grown w s) (.ref s.heap.objs.size) "set" := ⟨_, at0, rfl⟩
      have l1 := F.called_set.init.lookup
      have b1 := F.called_set.init.bind (.ref s.heap.objs.size)
      repeat (any_goals (first | assumption | wp_step))
      let made2 : Value → Shared → Prop := fun r s2 => r = .none ∧ ∃ g tk c, s2 = { s with heap := g, toks := tk } ∧ SetR w g s.heap.objs.size (fun j => decide (j ∈ ks)) c ∧ c ≤ ks.length ∧ (∀ b o, s.heap.get? b = some o → g.get? b = some o)
      refine codeAny_mono (codeAny_call_builtin (R := wants made2 E) F.called_set.init.plain F.entry_set_init (check_set_init_1 ty ?_)) fun r2 s2 hr2 => ?_
      · obtain ⟨⟨pc, pd, pdata, ps⟩, pget, pcls, pn, pdat⟩ := isl
        simp only at pcls pdat
        subst pcls pdat
        have pget2 : (s.heap.push (emp w)).get? p = some { cls := .type "list", dict := pd, data := .seq vals pn, slots := ps } := Heap.get?_push_of_some _ pget
        have n1 := F.sub_list_set
        have n2 := F.sub_list_frozenset
        have n3 : (Value.type "list" == Value.type "dict") = false := by decide
        have isl2 : (s.heap.push (emp w)).IsList p vals := ⟨_, pget2, rfl, pn, rfl⟩
        have plt : p < s.heap.objs.size := Heap.lt_size pget
        unfold Builtin.«set.__init__» noKeywords Builtin.Frozenset.updateFrom
        generalize hIt : pyIter = It
        wp_walk
        subst hIt
        refine wpAny_pyIter_list isl2 (wpAny_bind (wpAny_runValue ?_))
        have ok3 : A.in1.in1.in1.handled = none := by simp [clear]
        have np : p ≠ (s.heap.push (emp w)).objs.size := by
          rw [Heap.size_push]
          exact Nat.ne_of_lt (Nat.lt_succ_of_lt plt)
        have away : s.heap.objs.size ∉ [(s.heap.push (emp w)).objs.size, p] := by
          rw [Heap.size_push]
          intro z
          rcases List.mem_cons.mp z with z | z
          · exact absurd z (Nat.ne_of_lt (Nat.lt_succ_self _))
          · exact absurd (List.mem_singleton.mp z) (Nat.ne_of_gt plt)
        have each : ∀ (i : Nat) (v : Value), vals[i]? = some v → ∃ k t, ks[i]? = some k ∧ v = .int k t := fun i v hv => by
          have hi : i < ks.length := by rw [← size]; exact (Array.getElem?_eq_some_iff.mp hv).1
          obtain ⟨t, e⟩ := PyProof.Rows.IntsAre.int_at areI i v (by rw [Array.getElem?_toList]; exact hv)
          rw [List.getD_eq_getElem?_getD, List.getElem?_eq_getElem hi] at e
          exact ⟨ks[i], t, List.getElem?_eq_getElem hi, e⟩
        refine set_update_ints ((Walks.list ok3 _ p np vals).toS) s.heap.objs.size away ks size few each (vals.size - 0) 0 _ (by omega) (Nat.zero_le _) ⟨⟨_, Heap.get?_push_size _ rfl, rfl, rfl⟩, isl2.push _⟩ ⟨0, Nat.le_refl 0, setR_new_at (Heap.get?_push_of_some _ at0)⟩ ?_
        intro s3 c3 mv le3 R3
        obtain ⟨g3, gens3, drawn3, toks3, os3⟩ := s3
        cases (mv.gens : gens3 = s.gens)
        cases (mv.drawn : drawn3 = s.drawn)
        cases (mv.os : os3 = s.os)
        show wpAny _ _ _ _ _ _
        refine wpAny_pure (show wpAny _ _ (ret Value.none) _ _ _ from wpAny_pure ⟨rfl, g3, toks3, c3, rfl, R3, by rw [← size]; exact le3, fun b o eb => ?_⟩)
        have hb := Heap.lt_size eb
        exact mv.heap b o (fun z => by
          rw [Heap.size_push] at z
          rcases List.mem_cons.mp z with z | z
          · exact absurd z (Nat.ne_of_lt hb)
          · exact absurd (List.mem_singleton.mp z) (Nat.ne_of_lt (Nat.lt_succ_of_lt hb))) (Heap.get?_push_of_some _ (Heap.get?_push_of_some _ eb))
      · cases r2 with
        | error e => exact hr2
        | ok fl2 =>
          cases fl2 with
          | ret r =>
            obtain ⟨rfl, g, tk, c, rfl, R, le, keep⟩ := hr2
            repeat (any_goals (first | assumption | wp_step))
            exact post g tk c R le keep
          | _ => exact hr2.elim
    | _ => exact hr.elim
end
end Nb

namespace Nb
open PySem PySem.Spec PyProof.Rows L2

def insU (x : Int) : List Int → List Int
  | [] => [x]
  | y :: l => if x < y then x :: y :: l else if x = y then y :: l else y :: insU x l
def usort : List Int → List Int
  | [] => []
  | x :: l => insU x (usort l)
theorem insU_mem (x z : Int) : ∀ l : List Int, z ∈ insU x l ↔ z = x ∨ z ∈ l
  | [] => by simp [insU]
  | y :: l => by
    unfold insU
    split
    · simp
    · split
      · rename_i h; subst h; simp
      · rw [List.mem_cons, insU_mem x z l, List.mem_cons]
        constructor
        · rintro (h | h | h)
          · exact .inr (.inl h)
          · exact .inl h
          · exact .inr (.inr h)
        · rintro (h | h | h)
          · exact .inr (.inl h)
          · exact .inl h
          · exact .inr (.inr h)
theorem insU_srt (x : Int) : ∀ l : List Int, l.Pairwise (· < ·) → (insU x l).Pairwise (· < ·)
  | [], _ => by simp [insU]
  | y :: l, h => by
    rw [List.pairwise_cons] at h
    unfold insU
    split
    · rename_i hx
      rw [List.pairwise_cons, List.pairwise_cons]
      exact ⟨fun z hz => by
        rcases List.mem_cons.mp hz with rfl | hz
        · exact hx
        · have := h.1 z hz; omega, h⟩
    · split
      · rw [List.pairwise_cons]; exact h
      · rw [List.pairwise_cons]
        refine ⟨fun z hz => ?_, insU_srt x l h.2⟩
        rcases (insU_mem x z l).mp hz with rfl | hz
        · omega
        · exact h.1 z hz
theorem usort_mem (z : Int) : ∀ l : List Int, z ∈ usort l ↔ z ∈ l
  | [] => by simp [usort]
  | x :: l => by
    show z ∈ insU x (usort l) ↔ _
    rw [insU_mem, usort_mem z l, List.mem_cons]
theorem usort_srt : ∀ l : List Int, (usort l).Pairwise (· < ·)
  | [] => .nil
  | x :: l => insU_srt x _ (usort_srt l)
theorem srt_ext : ∀ {l m : List Int}, l.Pairwise (· < ·) → m.Pairwise (· < ·) → (∀ z, z ∈ l ↔ z ∈ m) → l = m
  | [], [], _, _, _ => rfl
  | [], y :: m, _, _, h => by have := (h y).mpr (List.mem_cons_self ..); simp at this
  | x :: l, [], _, _, h => by have := (h x).mp (List.mem_cons_self ..); simp at this
  | x :: l, y :: m, hl, hm, h => by
    rw [List.pairwise_cons] at hl hm
    have e : x = y := by
      rcases List.mem_cons.mp ((h x).mp (List.mem_cons_self ..)) with e | e
      · exact e
      · rcases List.mem_cons.mp ((h y).mpr (List.mem_cons_self ..)) with e' | e'
        · exact e'.symm
        · have := hm.1 x e; have := hl.1 y e'; omega
    subst e
    rw [srt_ext hl.2 hm.2 fun z => ?_]
    constructor
    · intro hz
      rcases List.mem_cons.mp ((h z).mp (List.mem_cons_of_mem _ hz)) with e | e
      · subst e; have := hl.1 _ hz; omega
      · exact e
    · intro hz
      rcases List.mem_cons.mp ((h z).mpr (List.mem_cons_of_mem _ hz)) with e | e
      · subst e; have := hm.1 _ hz; omega
      · exact e
section
variable {X : Cx}
def rSetL (K : PySem.W.Frag) (w : World) : List V → Hp → VK → Prop := fun vs H Q => ∃ (p : Addr) (ks : List Int), vs = [.ref p] ∧ SqL K H p (ks.map V.int) ∧ ks.length < 64 ∧ ∀ q c, H q = none → c ≤ ks.length → Q (.ref q) (upd H q (SetO w q (fun j => decide (j ∈ ks)) c))
theorem cr_setL (hc : X.calm = true) : CallR X (.type "set") (rSetL X.K X.w) := by
  intro pins s σ H vs us Q I r h
  obtain ⟨p, ks, rfl, hs, h64, q⟩ := h
  obtain ⟨its, rv, hl, _⟩ := I.list hs
  rw [Vals.ref1 r]
  refine set_of_list ks (I.ok.hd hc) hl.isList rv.ints (by unfold scanBound; omega) fun g tk c R le keep => ?_
  exact ⟨.ref _, upd H s.heap.objs.size (SetO X.w s.heap.objs.size (fun j => decide (j ∈ ks)) c), I.laid (t' := tk) keep (Nat.le_refl _) (setO_new R), rfl, q _ c (I.hok.fresh (Nat.le_refl _)) le⟩
def rSetT (K : PySem.W.Frag) (w : World) : List V → Hp → VK → Prop := fun vs H Q => ∃ (p : Addr) (ks : List Int), vs = [.ref p] ∧ SqT K H p (ks.map V.int) ∧ ks.length < 64 ∧ ∀ q c, H q = none → c ≤ ks.length → Q (.ref q) (upd H q (SetO w q (fun j => decide (j ∈ ks)) c))
theorem cr_setT (hc : X.calm = true) : CallR X (.type "set") (rSetT X.K X.w) := by
  intro pins s σ H vs us Q I r h
  obtain ⟨p, ks, rfl, hs, h64, q⟩ := h
  obtain ⟨its, rv, hl, _⟩ := I.tuple hs
  rw [Vals.ref1 r]
  refine call_set_tupI ks (I.ok.hd hc) hl rv.ints (by unfold scanBound; omega) fun g tk c R le keep => ?_
  exact ⟨.ref _, upd H s.heap.objs.size (SetO X.w s.heap.objs.size (fun j => decide (j ∈ ks)) c), I.laid (t' := tk) keep (Nat.le_refl _) (setO_new R), rfl, q _ c (I.hok.fresh (Nat.le_refl _)) le⟩
end
def rSetA (K : PySem.W.Frag) (w : World) : List V → Hp → VK → Prop := fun xs H Q => rSetL K w xs H Q ∨ rSetT K w xs H Q
def lstI : D → Option (List Int)
  | .list ds => intsD ds
  | .tuple ds => intsD ds
  | _ => none
def mSS (me : ME) : ME := fun ρ => bnd (me ρ) fun r ρ1 => obd (peek ρ1 r) fun d => obd (lstI d) fun is => if decide (is.length < 64) then some (.new (.list ((usort is).map PyData.int)), ρ1) else none
section
variable {ι : Type} {C : Core} {Rs : ι → Rest} {e : Expr} {me : ME} {pos : Pos}
theorem lstI_sq {K : PySem.W.Frag} {O : AS} {H : Hp} {x : V} {d : D} {is : List Int} (h : Pk K O H x d) (e : lstI d = some is) : ∃ p, x = .ref p ∧ (SqL K H p (is.map V.int) ∨ SqT K H p (is.map V.int)) := by
  unfold lstI at e
  split at e
  · rename_i ds
    rw [intsD_some e] at h
    obtain ⟨a, vs, rfl, h1, r⟩ := h.list
    rw [r.ints] at h1
    exact ⟨a, rfl, .inl (SqL.of h1)⟩
  · rename_i ds
    rw [intsD_some e] at h
    obtain ⟨a, vs, rfl, h1, r, _⟩ := h.tuple
    rw [r.ints] at h1
    exact ⟨a, rfl, .inr h1⟩
  · cases e
theorem se_sortedSet {p p2 q : Pos} (hm : C.mg "sorted" = none) (hm2 : C.mg "set" = none) (he : SE C Rs e me) (hg : ∀ i, Gl (cx C (Rs i)) "sorted" := by intro _; rfl) (hg2 : ∀ i, Gl (cx C (Rs i)) "set" := by intro _; rfl)
    (hv : bootBuiltins "sorted" = some (.builtin "sorted") := by decide +kernel) (hv2 : bootBuiltins "set" = some (.type "set") := by decide +kernel)
    (h1 : ∀ i, starEach [e] (Rs i).env = (false, eval e (Rs i).env) :: starEach [] (Rs i).env := by intro _; rfl) (h2 : ∀ i, (backTo q (starEach [] (Rs i).env)).any (·.1) = false := by intro _; rfl)
    (h3 : ∀ i, starEach [Expr.Call (.Name "set" p2) [e] [] q] (Rs i).env = (false, eval (Expr.Call (.Name "set" p2) [e] [] q) (Rs i).env) :: starEach [] (Rs i).env := by intro _; rfl) (h4 : ∀ i, (backTo pos (starEach [] (Rs i).env)).any (·.1) = false := by intro _; rfl) :
    SE C Rs (.Call (.Name "sorted" p) [.Call (.Name "set" p2) [e] [] q] [] pos) (mSS me) := by
  obtain ⟨t, pa, s⟩ := he
  refine ⟨_, fun i => pe_callB (X := cx C (Rs i)) (show CallR (cx C (Rs i)) (.builtin "sorted") (rSortedSet C.w) from cr_sortedSet rfl) (hg i) hm hv (pa_cons (pe_callTy (show CallR (cx C (Rs i)) (.type "set") (rSetA C.K C.w) from (cr_setL rfl).or (cr_setT rfl)) (hg2 i) hm2 hv2 (pa_cons (pa i) pa_nil (h1 i)) (by decide) (by decide) (h1 i) (h2 i)) pa_nil (h3 i)) (by decide) (by decide) (h3 i) (h4 i), fun A σ ρ H r ρ' Q E e q => ?_⟩
  obtain ⟨r1, ρ1, e1, e⟩ := bnd_some e
  obtain ⟨d, e2, e⟩ := obd_some e
  obtain ⟨is, e3, e⟩ := obd_some e
  split at e
  · rename_i hz
    have hz := of_decide_eq_true hz
    cases e
    refine s.use E e1 fun x H1 x1 E1 b1 => ?_
    obtain ⟨l, rfl, sq⟩ := lstI_sq (b1.peek E1 e2) e3
    have fin : ∀ a c, H1 a = none → c ≤ is.length → rSortedSet C.w [.ref a] (upd H1 a (SetO C.w a (fun j => decide (j ∈ is)) c)) Q := fun a c ha hc => by
      refine ⟨a, _, c, rfl, upd_same, by omega, fun ns b hs hmem _ hb => ?_⟩
      have en : ns = usort is := srt_ext hs (usort_srt is) fun z => by
        rw [hmem, usort_mem]
        exact decide_eq_true_iff
      subst en
      have xg : Ext σ ρ' H1 σ ρ' (upd H1 a (SetO C.w a (fun j => decide (j ∈ is)) c)) := .grow (Gr.upd ha)
      have E2 : EOk C.K A σ ρ' (upd H1 a (SetO C.w a (fun j => decide (j ∈ is)) c)) := E1.grow (Gr.upd ha) fun b z => .inl z
      obtain ⟨x2, rr⟩ := VRes.lift (H₀ := H) E2 (.upd hb) (vnew_lst hb (rpA_ints (usort is))) (res_start (x1.trans xg))
      exact q _ _ ((x1.trans xg).trans x2) rr
    rcases sq with sq | sq
    · exact .inl ⟨l, is, rfl, sq, hz, fun a c ha hc => fin a c ha hc⟩
    · exact .inr ⟨l, is, rfl, sq, hz, fun a c ha hc => fin a c ha hc⟩
  · cases e
end
end Nb

namespace Nb
open PySem PySem.Spec PyProof.Rows L2

section
variable {K : PySem.W.Frag} {A : AS} {σ σb : L2.St} {ρ0 ρb : VE} {H0 Hb : Hp}
theorem nown_of {σ' : L2.St} {ρ' : VE} {H' : Hp} {a : Addr} (E' : EOk K A σ' ρ' H') (ha : A a) : ¬ MOwn σ' ρ' a := fun z => by
  obtain ⟨j, m, d', ej, _, sj⟩ := z
  obtain ⟨a', ea', _, na', _⟩ := E'.own j m d' ej
  rw [sj] at ea'
  cases ea'
  exact na' ha
theorem loop_in {J : It} {g : MG} {mt : MT} {me : ME} {tg : TG} {tt : TT} {te : TE} {vs is : List Nat} {ds acc0 acc' : List D} {acc0v : List V} {ρ' : VE} {Da : Addr} {Nx : Hp → Prop} (sg : SndG K tg g is) (st : SndT K tt mt) (se : Snd K te me) (hv : ∀ i ∈ is, i ∈ vs)
    (E0 : EOk K A σ ρ0 H0) (x0 : Ext σb ρb Hb σ ρ0 H0) (hb : Hb Da = none) (hDa : A Da) (it : ItOk K (Av A σ ρ0) H0 J ds) (hf : freeS ρ0 vs = true) (hH : H0 Da = some (.lst acc0v)) (ra : RpA K (Av A σ ρ0) H0 acc0v acc0)
    (e : compL g mt me vs ds (wipeE ρ0 vs) acc0 = some (acc', ρ'))
    (fin : ∀ H1 accv, EOk K A (wipe σ vs) ρ' H1 → Ext σb ρb Hb (wipe σ vs) ρ' H1 → (∀ b o, H0 b = some o → ¬ Av A σ ρ0 b → ¬ Av A (wipe σ vs) ρ' b ∧ H1 b = some o) → H1 Da = some (.lst accv) → RpA K (Av A (wipe σ vs) ρ') H1 accv acc' → Nx H1) :
    ∃ W : Nat → Nat → Hp → Prop, (∃ m, W 0 m H0) ∧ ∀ i k H, W i k H → (J.stop i H ∧ Nx H) ∨ (J.go i H ∧ ∃ Nx1 : Hp → Prop, (∀ H', Nx1 H' → ∃ k', k' < k ∧ W (i + 1) k' H') ∧ ∀ x H', J.yld i H x H' → tg x (wipe σ vs) H' fun σ3 H5 => wipe σ3 vs = wipe σ vs ∧ tt σ3 H5 fun b H6 =>
        if b = true then te σ3 H6 fun y H7 => ∃ acc, H7 Da = some (.lst acc) ∧ acc.length < sizeLine ∧ Nx1 (upd H7 Da (.lst (acc ++ [y]))) else Nx1 H6) := by
  obtain ⟨Ew, xw⟩ := eok_wipe E0 hf
  refine ⟨fun i k H1 => k = ds.length - i ∧ i ≤ ds.length ∧ ∃ ρi acc accv, EOk K A (wipe σ vs) ρi H1 ∧ Ext σb ρb Hb (wipe σ vs) ρi H1 ∧ (∀ b o, H0 b = some o → ¬ Av A σ ρ0 b → ¬ Av A (wipe σ vs) ρi b ∧ H1 b = some o) ∧ H1 Da = some (.lst accv) ∧ RpA K (Av A (wipe σ vs) ρi) H1 accv acc ∧
      compL g mt me vs (ds.drop i) ρi acc = some (acc', ρ'), ⟨_, rfl, Nat.zero_le _, wipeE ρ0 vs, acc0, acc0v, Ew, x0.trans xw, fun b o eb nb => xw.it (A := A) b o eb nb, hH, xw.rpA ra, by rw [List.drop_zero]; exact e⟩, ?_⟩
  rintro i k H1 ⟨rfl, hi, ρi, acc, accv, E1, x1, T1, hH1, ra1, e2⟩
  obtain ⟨go, stop⟩ := it (Av A (wipe σ vs) ρi) H1 (fun b => E1.there) T1 i
  by_cases hlt : i < ds.length
  · obtain ⟨d, hd⟩ : ∃ d, ds[i]? = some d := ⟨ds[i], List.getElem?_eq_getElem hlt⟩
    have hdr : ds.drop i = d :: ds.drop (i + 1) := by
      rw [List.drop_eq_getElem_cons hlt]
      rw [List.getElem?_eq_getElem hlt] at hd
      cases hd
      rfl
    rw [hdr] at e2
    obtain ⟨ρa, ea, e2⟩ := obd_some e2
    obtain ⟨b, ρb', eb, e2⟩ := bnd_some e2
    obtain ⟨go, yl⟩ := go d hd
    refine .inr ⟨go, fun H2 => ∃ ρi acc accv, EOk K A (wipe σ vs) ρi H2 ∧ Ext σb ρb Hb (wipe σ vs) ρi H2 ∧ (∀ b o, H0 b = some o → ¬ Av A σ ρ0 b → ¬ Av A (wipe σ vs) ρi b ∧ H2 b = some o) ∧ H2 Da = some (.lst accv) ∧ RpA K (Av A (wipe σ vs) ρi) H2 accv acc ∧
        compL g mt me vs (ds.drop (i + 1)) ρi acc = some (acc', ρ'), fun H2 h => ⟨ds.length - (i + 1), by omega, rfl, hlt, h⟩, fun x H2 hy => ?_⟩
    obtain ⟨gr, rx⟩ := yl x H2 hy
    have x12 : Ext (wipe σ vs) ρi H1 (wipe σ vs) ρi H2 := .grow gr
    refine sg _ (wipe σ vs) ρi H2 x d ρa _ (E1.grow gr fun b z => .inl z) rx ea fun σa H3 E3 x3 w3 => ?_
    have w3' := w3 vs hv
    rw [wipe_idem] at w3'
    refine ⟨w3', st _ σa ρa H3 b ρb' _ E3 eb fun H4 x4 E4 => ?_⟩
    have x14 := (x12.trans x3).trans x4
    have next : ∀ {ρn : VE} {H5 : Hp}, Ext (wipe σ vs) ρi H1 (wipe σ vs) ρn H5 → ∀ b o, H0 b = some o → ¬ Av A σ ρ0 b → ¬ Av A (wipe σ vs) ρn b ∧ H5 b = some o := fun {ρn H5} xx b o eb nb => by
      obtain ⟨n1, e1⟩ := T1 b o eb nb
      exact xx.it (A := A) b o e1 n1
    cases b with
    | true =>
      rw [if_pos rfl] at e2 ⊢
      obtain ⟨rr, ρc, ec, e2⟩ := bnd_some e2
      obtain ⟨y, ρd, ed, e2⟩ := bnd_some e2
      split at e2
      · rename_i hc
        rw [Bool.and_eq_true] at hc
        refine se.use E4 ec fun v H5 x5 E5 b5 => ?_
        obtain ⟨E6, x6, r6⟩ := frz_ok b5 E5 ed
        obtain ⟨Ew6, xw6⟩ := eok_wipe E6 hc.2
        rw [w3'] at Ew6 xw6
        have x17 := ((x14.trans x5).trans x6).trans xw6
        have ra' : RpA K (Av A (wipe σ vs) (wipeE ρd vs)) H5 accv acc := x17.rpA ra1
        have rv' : Rp K (Av A (wipe σ vs) (wipeE ρd vs)) H5 v y := xw6.rp r6
        have stA : Stay (Av A (wipe σ vs) (wipeE ρd vs)) H5 (Av A (wipe σ vs) (wipeE ρd vs)) (upd H5 Da (.lst (accv ++ [v]))) := fun b u e n => ⟨n, .inl (by rw [upd_ne fun (z : b = Da) => n (.inl (z ▸ hDa))]; exact e)⟩
        refine ⟨accv, x17.keep Da _ hH1 (nown_of E1 hDa), ?_, wipeE ρd vs, acc ++ [y], accv ++ [v], eok_updA Ew6 hDa, ext_updA (x1.trans x17) hb, fun b o eb nb => ?_, upd_same, (ra'.snoc rv').mono stA, e2⟩
        · have := szOk_le hc.1
          rw [ra1.length]
          omega
        · obtain ⟨n1, e1⟩ := next x17 b o eb nb
          exact ⟨n1, by rw [upd_ne fun (z : b = Da) => nb (.inl (z ▸ hDa))]; exact e1⟩
      · cases e2
    | false =>
      rw [if_neg Bool.false_ne_true] at e2 ⊢
      split at e2
      · rename_i hc
        obtain ⟨Ew6, xw6⟩ := eok_wipe E4 hc
        rw [w3'] at Ew6 xw6
        have x17 := x14.trans xw6
        exact ⟨wipeE ρb' vs, acc, accv, Ew6, x1.trans x17, next x17, x17.keep Da _ hH1 (nown_of E1 hDa), x17.rpA ra1, e2⟩
      · cases e2
  · have hl : ds.length ≤ i := by omega
    rw [List.drop_eq_nil_of_le hl] at e2
    cases e2
    exact .inl ⟨stop hl, fin H1 accv E1 x1 T1 hH1 ra1⟩
end
end Nb

namespace Nb
open PySem PySem.Spec PyProof.Rows L2
theorem wipe_sub {σ : L2.St} {vs vs1 : List Nat} (h : ∀ i ∈ vs1, i ∈ vs) : wipe (wipe σ vs1) vs = wipe σ vs := by
  apply List.ext_getElem?
  intro i
  by_cases hi : i ∈ vs
  · by_cases hl : i < σ.length
    · have h1 : ∀ τ : L2.St, i < τ.length → (wipe τ vs)[i]? = some none := fun τ ht => by
        cases e : (wipe τ vs)[i]? with
        | none => rw [List.getElem?_eq_none_iff, wipe_length] at e; omega
        | some o =>
          cases o with
          | none => rfl
          | some x => exact absurd hi (wipe_some e).2
      rw [h1 σ hl, h1 (wipe σ vs1) (by rw [wipe_length]; exact hl)]
    · rw [List.getElem?_eq_none (by rw [wipe_length, wipe_length]; omega), List.getElem?_eq_none (by rw [wipe_length]; omega)]
  · rw [wipe_out hi, wipe_out hi, wipe_out fun z => hi (h i z)]
def compL2 (g : MG) (mt : MT) (mi1 : MI) (g1 : MG) (mt1 : MT) (me : ME) (vs vs1 : List Nat) : List D → VE → List D → Option (List D × VE)
  | [], ρ, acc => some (acc, ρ)
  | d :: ds, ρ, acc => obd (g d ρ) fun ρ1 => bnd (mt ρ1) fun b ρ2 => if b then bnd (mi1 ρ2) fun ds1 ρ3 => if freeS ρ3 vs1 then bnd (compL g1 mt1 me vs1 ds1 (wipeE ρ3 vs1) acc) fun acc' ρ4 => if freeS ρ4 vs then compL2 g mt mi1 g1 mt1 me vs vs1 ds (wipeE ρ4 vs) acc' else none else none
      else if freeS ρ2 vs then compL2 g mt mi1 g1 mt1 me vs vs1 ds (wipeE ρ2 vs) acc else none
def mComp2 (mi : MI) (g : MG) (mt : MT) (mi1 : MI) (g1 : MG) (mt1 : MT) (me : ME) (vs vs1 : List Nat) : ME := fun ρ => bnd (mi ρ) fun ds ρ0 => if freeS ρ0 vs then bnd (compL2 g mt mi1 g1 mt1 me vs vs1 ds (wipeE ρ0 vs) []) fun xs ρ1 => some (.new (.list xs), backE ρ1 ρ0 vs) else none
section
variable {ι : Type} {C : Core} {Rs : ι → Rest} {e elt tg it tgb itb : Expr} {ifs ifsb : List Expr} {me : ME} {mt mt1 : MT} {mi mi1 : MI} {g g1 : MG} {pos : Pos}
theorem snd_comp2 {K : PySem.W.Frag} {wi wi1 : TI} {tg tg1 : TG} {tt tt1 : TT} {te : TE} {vs vs1 is is1 : List Nat} (si : SndI K wi mi) (sg : SndG K tg g is) (st : SndT K tt mt) (si1 : SndI K wi1 mi1) (sg1 : SndG K tg1 g1 is1) (st1 : SndT K tt1 mt1) (se : Snd K te me) (hv : ∀ i ∈ is, i ∈ vs) (hv1 : ∀ i ∈ is1, i ∈ vs1) (hvv : ∀ i ∈ vs1, i ∈ vs) : Snd K (tLc2 wi tg tt wi1 tg1 tt1 te vs vs1) (mComp2 mi g mt mi1 g1 mt1 me vs vs1) := by
  intro A σ ρ H r ρ' Q E e q
  obtain ⟨ds, ρ0, e0, e⟩ := bnd_some e
  split at e
  · rename_i hf
    obtain ⟨xs, ρ1, e1, e⟩ := bnd_some e
    cases e
    refine si A σ ρ H ds ρ0 _ E e0 fun J H0 x0 E0 it => fun Da hD => ?_
    obtain ⟨Ew, xw⟩ := eok_wipe E0 hf
    have wipeN : ∀ {ρ : VE} i, i ∈ vs → (wipeE ρ vs)[i]? = some none ∨ (wipeE ρ vs)[i]? = none := fun {ρ} i hi => by
      by_cases hl : i < ρ.length
      · exact .inl (wipeE_in hi hl)
      · exact .inr (List.getElem?_eq_none (by rw [wipeE_length]; omega))
    refine ⟨fun i k H1 => k = ds.length - i ∧ i ≤ ds.length ∧ ∃ ρi acc accv, EOk K (add A Da) (wipe σ vs) ρi H1 ∧ Ext (wipe σ vs) (wipeE ρ0 vs) H0 (wipe σ vs) ρi H1 ∧ H1 Da = some (.lst accv) ∧ RpA K (Av (add A Da) (wipe σ vs) ρi) H1 accv acc ∧ (∀ i ∈ vs, ρi[i]? = some none ∨ ρi[i]? = none) ∧
      compL2 g mt mi1 g1 mt1 me vs vs1 (ds.drop i) ρi acc = some (xs, ρ1), ⟨_, rfl, Nat.zero_le _, wipeE ρ0 vs, [], [], ?_, ?_, upd_same, .nil, fun i hi => wipeN i hi, by rw [List.drop_zero]; exact e1⟩, ?_⟩
    · exact Ew.grow (Gr.upd hD) fun b z => z.elim .inl fun z => .inr ⟨z ▸ hD, z ▸ ⟨_, upd_same⟩⟩
    · exact .grow (Gr.upd hD)
    rintro i k H1 ⟨rfl, hi, ρi, acc, accv, E1, x1, hH, ra, hw, e2⟩
    obtain ⟨go, stop⟩ := it (Av (add A Da) (wipe σ vs) ρi) H1 (fun b => E1.there) (fun b o eb nb => by
      have nb' : ¬ Av A (wipe σ vs) (wipeE ρ0 vs) b := (xw.stay b o eb nb).1
      have q := x1.it (A := A) b o eb nb'
      refine ⟨fun z => ?_, q.2⟩
      rcases z with (z | z) | z
      · exact q.1 (.inl z)
      · subst z
        rw [hD] at eb
        cases eb
      · exact q.1 (.inr z)) i
    by_cases hlt : i < ds.length
    · obtain ⟨d, hd⟩ : ∃ d, ds[i]? = some d := ⟨ds[i], List.getElem?_eq_getElem hlt⟩
      have hdr : ds.drop i = d :: ds.drop (i + 1) := by
        rw [List.drop_eq_getElem_cons hlt]
        rw [List.getElem?_eq_getElem hlt] at hd
        cases hd
        rfl
      rw [hdr] at e2
      obtain ⟨ρa, ea, e2⟩ := obd_some e2
      obtain ⟨b, ρb, eb, e2⟩ := bnd_some e2
      obtain ⟨go, yl⟩ := go d hd
      refine .inr ⟨go, fun H2 => ∃ ρi acc accv, EOk K (add A Da) (wipe σ vs) ρi H2 ∧ Ext (wipe σ vs) (wipeE ρ0 vs) H0 (wipe σ vs) ρi H2 ∧ H2 Da = some (.lst accv) ∧ RpA K (Av (add A Da) (wipe σ vs) ρi) H2 accv acc ∧ (∀ i ∈ vs, ρi[i]? = some none ∨ ρi[i]? = none) ∧
        compL2 g mt mi1 g1 mt1 me vs vs1 (ds.drop (i + 1)) ρi acc = some (xs, ρ1), fun H2 h => ⟨ds.length - (i + 1), by omega, rfl, hlt, h⟩, fun x H2 hy => ?_⟩
      obtain ⟨gr, rx⟩ := yl x H2 hy
      have x12 : Ext (wipe σ vs) ρi H1 (wipe σ vs) ρi H2 := .grow gr
      refine sg _ (wipe σ vs) ρi H2 x d ρa _ (E1.grow gr fun b z => .inl z) rx ea fun σa H3 E3 x3 w3 => ?_
      have w3' := w3 vs hv
      rw [wipe_idem] at w3'
      refine ⟨w3', st _ σa ρa H3 b ρb _ E3 eb fun H4 x4 E4 => ?_⟩
      have nDa : ∀ {σ' : L2.St} {ρ' : VE} {H' : Hp}, EOk K (add A Da) σ' ρ' H' → ¬ MOwn σ' ρ' Da := fun E' z => by
        obtain ⟨j, m, d', ej, _, sj⟩ := z
        obtain ⟨a', ea', _, na', _⟩ := E'.own j m d' ej
        rw [sj] at ea'
        cases ea'
        exact na' (.inr rfl)
      have x14 := (x12.trans x3).trans x4
      cases b with
      | true =>
        rw [if_pos rfl] at e2 ⊢
        obtain ⟨ds1, ρc, ec, e2⟩ := bnd_some e2
        split at e2
        · rename_i hc1
          obtain ⟨acc', ρd, ed, e2⟩ := bnd_some e2
          split at e2
          · rename_i hc
            refine si1 _ σa ρb H4 ds1 ρc _ E4 ec fun J1 H5 x5 E5 it1 => ?_
            have x15 := x14.trans x5
            have hDa5 : H5 Da = some (.lst accv) := x15.keep Da _ hH (nDa E1)
            refine loop_in (is := is1) sg1 st1 se hv1 E5 (x1.trans x15) hD (.inr rfl) it1 hc1 hDa5 (x15.rpA ra) ed fun H6 accv' E6 x6 _ hDa6 ra6 => ?_
            obtain ⟨Ew6, xw6⟩ := eok_wipe E6 hc
            rw [wipe_sub hvv, w3'] at Ew6 xw6
            exact ⟨wipeE ρd vs, acc', accv', Ew6, x6.trans xw6, xw6.keep Da _ hDa6 (nDa E6), xw6.rpA ra6, fun i hi => wipeN i hi, e2⟩
          · cases e2
        · cases e2
      | false =>
        rw [if_neg Bool.false_ne_true] at e2 ⊢
        split at e2
        · rename_i hc
          obtain ⟨Ew6, xw6⟩ := eok_wipe E4 hc
          rw [w3'] at Ew6 xw6
          have x17 := x14.trans xw6
          exact ⟨wipeE ρb vs, acc, accv, Ew6, x1.trans x17, x17.keep Da _ hH (nDa E1), x17.rpA ra, fun i hi => wipeN i hi, e2⟩
        · cases e2
    · have hl : ds.length ≤ i := by omega
      rw [List.drop_eq_nil_of_le hl] at e2
      cases e2
      refine .inl ⟨stop hl, ?_⟩
      have EA : EOk K (add A Da) σ ρ0 (upd H0 Da (.lst [])) := E0.grow (Gr.upd hD) fun b z => z.elim .inl fun z => .inr ⟨z ▸ hD, z ▸ ⟨_, upd_same⟩⟩
      have E1' : EOk K A (wipe σ vs) ρ1 H1 := E1.weaken fun b z => .inl z
      obtain ⟨Eb, xb, av⟩ := eok_back (A := A) E0 hf E1' x1 hw
      have av2 : ∀ b, Av (add A Da) σ (backE ρ1 ρ0 vs) b ↔ Av (add A Da) (wipe σ vs) ρ1 b := fun b => by
        have := av b
        unfold Av at this ⊢
        unfold add
        constructor
        · rintro ((z | z) | z)
          · exact .inl (.inl z)
          · exact .inl (.inr z)
          · exact (this.mp (.inr z)).elim (fun z => .inl (.inl z)) .inr
        · rintro ((z | z) | z)
          · exact .inl (.inl z)
          · exact .inl (.inr z)
          · exact (this.mpr (.inr z)).elim (fun z => .inl (.inl z)) .inr
      have nD : ¬ Av A σ (backE ρ1 ρ0 vs) Da := fun z => by
        rcases (av Da).mp z with z | ⟨j, m, d', ej, sj⟩
        · obtain ⟨o, eo⟩ := E0.dom Da z
          rw [hD] at eo
          cases eo
        · obtain ⟨a', ea', _, na', _⟩ := E1.own j m d' ej
          rw [sj] at ea'
          cases ea'
          exact na' (.inr rfl)
      -- the same with the new list avoided
      have Eb2 : EOk K (add A Da) σ (backE ρ1 ρ0 vs) H1 := by
        refine ⟨Eb.len, fun b z => z.elim (fun z => Eb.dom b z) fun z => z ▸ ⟨_, hH⟩, fun j d ej => ?_, fun j m d ej => ?_, Eb.fv, Eb.inj⟩
        · by_cases hj : j ∈ vs
          · have hlen : ρ0.length = ρ1.length := by rw [← E0.len, ← E1.len, wipe_length]
            have hjl : j < ρ1.length := by rw [← backE_length ρ1 ρ0 vs]; exact (List.getElem?_eq_some_iff.mp ej).1
            rw [backE_in hj hjl hlen] at ej
            obtain ⟨v, ev, rv⟩ := E0.sh j d ej
            refine ⟨v, ev, rv.mono fun b o eb nb => ?_⟩
            have q := (xw.trans x1).stay b o eb nb
            refine ⟨fun z => ?_, q.2⟩
            rcases (av2 b).mp z with (z | z) | z
            · exact q.1 (.inl z)
            · subst z
              rw [hD] at eb
              cases eb
            · exact q.1 (.inr z)
          · rw [backE_out hj] at ej
            obtain ⟨v, ev, rv⟩ := E1.sh j d ej
            rw [wipe_out hj] at ev
            exact ⟨v, ev, rv.mono fun b o eb nb => ⟨fun z => nb ((av2 b).mp z), .inl eb⟩⟩
        · by_cases hj : j ∈ vs
          · have hlen : ρ0.length = ρ1.length := by rw [← E0.len, ← E1.len, wipe_length]
            have hjl : j < ρ1.length := by rw [← backE_length ρ1 ρ0 vs]; exact (List.getElem?_eq_some_iff.mp ej).1
            rw [backE_in hj hjl hlen] at ej
            exact absurd ej (freeS_no hf hj m d)
          · rw [backE_out hj] at ej
            obtain ⟨a, ea, t, na, nf⟩ := E1.own j m d ej
            rw [wipe_out hj] at ea
            exact ⟨a, ea, t.mono (fun b o eb nb => ⟨fun z => nb ((av2 b).mp z), .inl eb⟩) fun o e => .inl e, na, nf⟩
      refine q _ H1 (x0.trans xb) ⟨Da, rfl, res_start x0 Da hD, Eb2, .lst hH (ra.mono fun b o eb nb => ⟨fun z => nb ((av2 b).mp z), .inl eb⟩), fun q u z => ?_, nD⟩
      rw [hH] at z
      cases z
  · cases e
theorem se_comp2 {scope sc : Scope} {own : List (PySem.Str × Nat)} {is is1 : List Nat} (vs1 : List Nat) (hN : C.N.Nodup) (hi : SI C Rs tg it mi) (hg : SG C (blkR Rs scope) tg g is) (ht : STs C (blkR Rs scope) ifs mt) (hi1 : SI C (blkR Rs scope) tgb itb mi1) (hg1 : SG C (blkR Rs scope) tgb g1 is1) (ht1 : STs C (blkR Rs scope) ifsb mt1) (he : SE C (blkR Rs scope) elt me) (ok : blkC C.N sc scope own = true)
    (hv : ∀ i ∈ is, i ∈ own.map (·.2) := by decide) (hv1 : ∀ i ∈ is1, i ∈ vs1 := by decide) (hvv : ∀ i ∈ vs1, i ∈ own.map (·.2) := by decide) (hsc : ∀ i, (Rs i).env.scope = sc := by intro _; rfl) (hs : ∀ i x, foldedSetIterable it (Rs i).env x = pure x := by intro _ _; rfl) (hs1 : ∀ env x, foldedSetIterable itb env x = pure x := by intro _ _; rfl) :
    SE C Rs (.ListComp elt [⟨tg, it, ifs, 0⟩, ⟨tgb, itb, ifsb, 0⟩] scope pos) (mComp2 mi g mt mi1 g1 mt1 me (own.map (·.2)) vs1) := by
  obtain ⟨wi, pi, si⟩ := hi
  obtain ⟨tg', pg, sg⟩ := hg
  obtain ⟨tt, pt, st⟩ := ht
  obtain ⟨wi1, pi1, si1⟩ := hi1
  obtain ⟨tg1', pg1, sg1⟩ := hg1
  obtain ⟨tt1, pt1, st1⟩ := ht1
  obtain ⟨te, pe, se⟩ := he
  exact ⟨_, fun i => pe_lc2 (X := cx C (Rs i)) (vs1 := vs1) rfl hN (pi i) (by rw [show (cx C (Rs i)).env.scope = sc from hsc i]; exact blkOk_by ok) hvv (fun s H a cl fp => pg (i, s, H, a, cl, fp)) (fun s H a cl fp => pt (i, s, H, a, cl, fp)) (fun s H a cl fp => pi1 (i, s, H, a, cl, fp)) (fun s H a cl fp => pg1 (i, s, H, a, cl, fp)) (fun s H a cl fp => pt1 (i, s, H, a, cl, fp)) (fun s H a cl fp => pe (i, s, H, a, cl, fp)) (hs i) hs1, snd_comp2 si sg st si1 sg1 st1 se hv hv1 hvv⟩
end
end Nb

namespace Nb
open PySem PySem.Spec PyProof.Rows L2

def insI (x : Int) : List Int → List Int
  | [] => [x]
  | y :: l => if x ≤ y then x :: y :: l else y :: insI x l
def isort : List Int → List Int
  | [] => []
  | x :: l => insI x (isort l)
theorem insI_perm (x : Int) : ∀ l : List Int, (insI x l).Perm (x :: l)
  | [] => .refl _
  | y :: l => by
    unfold insI
    split
    · exact .refl _
    · exact ((insI_perm x l).cons y).trans (.swap x y l)
theorem isort_perm : ∀ l : List Int, (isort l).Perm l
  | [] => .refl _
  | x :: l => (insI_perm x _).trans ((isort_perm l).cons x)
theorem insI_srt (x : Int) : ∀ l : List Int, l.Pairwise (· ≤ ·) → (insI x l).Pairwise (· ≤ ·)
  | [], _ => by simp [insI]
  | y :: l, h => by
    rw [List.pairwise_cons] at h
    unfold insI
    split
    · rename_i hx
      rw [List.pairwise_cons, List.pairwise_cons]
      exact ⟨fun z hz => by
        rcases List.mem_cons.mp hz with rfl | hz
        · exact hx
        · have := h.1 z hz; omega, h⟩
    · rw [List.pairwise_cons]
      refine ⟨fun z hz => ?_, insI_srt x l h.2⟩
      rcases List.mem_cons.mp ((insI_perm x l).mem_iff.mp hz) with rfl | hz
      · omega
      · exact h.1 z hz
theorem isort_srt : ∀ l : List Int, (isort l).Pairwise (· ≤ ·)
  | [] => .nil
  | x :: l => insI_srt x _ (isort_srt l)
theorem perm_ext : ∀ {l m : List Int}, l.Pairwise (· ≤ ·) → m.Pairwise (· ≤ ·) → l.Perm m → l = m
  | [], m, _, _, h => (List.nil_perm.mp h).symm
  | x :: l, [], _, _, h => absurd h.length_eq (by simp)
  | x :: l, y :: m, hl, hm, h => by
    rw [List.pairwise_cons] at hl hm
    have e : x = y := by
      have h1 : y ≤ x := by
        rcases List.mem_cons.mp (h.mem_iff.mp (List.mem_cons_self ..)) with e | e
        · omega
        · exact hm.1 x e
      have h2 : x ≤ y := by
        rcases List.mem_cons.mp (h.mem_iff.mpr (List.mem_cons_self ..)) with e | e
        · omega
        · exact hl.1 y e
      omega
    subst e
    rw [perm_ext hl.2 hm.2 (List.Perm.cons_inv h)]
def srtD : List D → Option BV
  | [.list es] => obd (intsD es) fun is => if decide (is.length < 64) then some (.new (.list ((isort is).map PyData.int))) else none
  | _ => none
theorem cv_sorted {K : PySem.W.Frag} : CallV K (rSorted K) srtD := by
  intro O H xs ds b Q hO px ef q
  unfold srtD at ef
  split at ef
  · rename_i es
    obtain ⟨is, e1, ef⟩ := obd_some ef
    split at ef
    · rename_i hz
      cases ef
      rw [intsD_some e1] at px
      obtain ⟨v, rfl, p⟩ := px.one
      obtain ⟨a, vs, rfl, h1, r⟩ := p.list
      rw [r.ints] at h1
      refine ⟨a, is, rfl, SqL.of h1, of_decide_eq_true hz, fun ns' p' hp hs hn => ?_⟩
      have e : ns' = isort is := perm_ext hs (isort_srt is) (hp.trans (isort_perm is).symm)
      subst e
      exact q _ _ (.upd hn) (vnew_lst hn (rpA_ints (isort is)))
    · cases ef
  · cases ef
end Nb

namespace Nb
open PySem PySem.Spec PyProof.Rows L2

theorem sAD : ((("at" : PySem.Str) == ("draws" : PySem.Str)) = false) := by decide
theorem sDA : ((("draws" : PySem.Str) == ("at" : PySem.Str)) = false) := by decide
theorem setOk_sh {d : D} : setOk (some (some (.sh d))) = true := rfl
theorem setOk_ow {d : D} : setOk (some (some (.own .ow d))) = true := rfl
theorem setOk_no : setOk (some none) = true := rfl
theorem setOk_fv {a : Addr} : setOk (some (some (.fv a))) = true := rfl
theorem eqD_int (i j : Int) : eqD (.int i) (.int j) = some (.d (.bool (i == j))) := rfl
theorem neD_int (i j : Int) : neD (.int i) (.int j) = some (.d (.bool (i != j))) := rfl
theorem eqD_str (x y : PySem.Str) : eqD (.str x) (.str y) = some (.d (.bool (x == y))) := rfl
theorem neD_str (x y : PySem.Str) : neD (.str x) (.str y) = some (.d (.bool (x != y))) := rfl
theorem eqD_bl (x y : Bool) : eqD (.bool x) (.bool y) = some (.d (.bool (x == y))) := rfl
theorem neD_bl (x y : Bool) : neD (.bool x) (.bool y) = some (.d (.bool (!(x == y)))) := rfl
theorem mulOk_r {i j : Int} (h : j.natAbs < 2 ^ 64) : mulOk i j = true := by unfold mulOk; simp [h]
theorem mulOk_l {i j : Int} (h : i.natAbs < 2 ^ 64) : mulOk i j = true := by unfold mulOk; simp [h]
theorem sz1 {n : Nat} (h : n ≤ 100000) : szOk n = true := szOk_of (by omega)
theorem forL_inv {g : MG} {m : MS} (I : Nat → VE → Prop) : ∀ (L : List D) (i : Nat) (ρ : VE), (∀ (j : Nat) (d : D) (ρ : VE), L[j]? = some d → I (i + j) ρ → ∃ ρ1 ρ2, g d ρ = some ρ1 ∧ m ρ1 = some (ρ2, .nx) ∧ I (i + j + 1) ρ2) → I i ρ →
    ∃ ρ', forL g m L ρ = some (ρ', .nx) ∧ I (i + L.length) ρ'
  | [], i, ρ, _, h => ⟨ρ, rfl, h⟩
  | d :: ds, i, ρ, s, h => by
    obtain ⟨ρ1, ρ2, e1, e2, h2⟩ := s 0 d ρ rfl h
    obtain ⟨ρ', e3, h3⟩ := forL_inv I ds (i + 1) ρ2 (fun j d ρ hd hj => by
      have := s (j + 1) d ρ hd (by rwa [show i + (j + 1) = i + 1 + j by omega])
      rwa [show i + (j + 1) + 1 = i + 1 + j + 1 by omega] at this) h2
    refine ⟨ρ', ?_, by rw [List.length_cons, show i + (ds.length + 1) = i + 1 + ds.length by omega]; exact h3⟩
    show obd (g d ρ) _ = _
    rw [e1]
    show (match m ρ1 with | some (ρ2, .nx) => forL g m ds ρ2 | some (ρ2, .ct) => forL g m ds ρ2 | some (ρ2, .bk) => some (ρ2, .nx) | r => r) = _
    rw [e2]
    exact e3
theorem rngD_get {lo : Int} {n j : Nat} {d : D} (h : (rngD lo n)[j]? = some d) : d = .int (lo + j) ∧ j < n := by
  unfold rngD at h
  rw [List.getElem?_map] at h
  by_cases hj : j < n
  · rw [List.getElem?_range hj] at h
    cases h
    exact ⟨rfl, hj⟩
  · rw [List.getElem?_eq_none (by rw [List.length_range]; omega)] at h
    cases h
theorem rngD_len {lo : Int} {n : Nat} : (rngD lo n).length = n := by unfold rngD; simp
def lpIn : MS := (mIfS (mB (mBin gtD (mVar 6) (mC (.int 0)))) (mSeq (mDrop (mMut 2 apF (aCons (mBin iMod (mCall intD2 (aCons (mVar 6) (aNil))) (mC (.int 997))) (aNil)))) (mSet 6 (mBin iDiv (mVar 6) (mC (.int 997))))) (mNx))
def lpOut : MS := (mSeq (mSet 5 (mCall absD (aCons (mCall intD2 (aCons (mBin subD (mVar 0) (mVar 4)) (aNil))) (aNil)))) (mSeq (mSet 3 (mBin iMod (mCall intD2 (aCons (mBin addD (mBin addD (mBin iMul (mVar 3) (mC (.int 48271))) (mBin iMod (mVar 5) (mC (.int 1000003)))) (mVar 4)) (aNil))) (mC (.int 65537)))) (mSeq (mSet 6 (mC (.int 0))) (mSeq (mIfS (mB (mBin geD (mVar 5) (mBin iPow (mC (.int 10)) (mC (.int 18))))) (mSet 6 (mVar 5)) (mSeq (mDrop (mMut 2 apF (aCons (mBin iMod (mCall intD2 (aCons (mVar 5) (aNil))) (mC (.int 997))) (aNil)))) (mDrop (mMut 2 apF (aCons (mBin iMod (mBin iMod (mCall intD2 (aCons (mBin addD (mBin iMul (mVar 3) (mC (.int 69621))) (mC (.int 5))) (aNil))) (mC (.int 65521))) (mC (.int 997))) (aNil)))))) (mFor (iR1 (aCons (mC (.int 60)) (aNil))) (gN 7) lpIn)))))
def lpFin : MS := (mSeq (mSet 3 (mBin iMod (mCall intD2 (aCons (mBin addD (mBin addD (mBin iMul (mVar 3) (mC (.int 16807))) (mVar 4)) (mC (.int 1))) (aNil))) (mC (.int 65537)))) (mDrop (mMut 2 apF (aCons (mBin iMod (mCall intD2 (aCons (mVar 3) (aNil))) (mC (.int 997))) (aNil)))))
def m_law_draws : MS := mSeq (mSet 2 (mLst (aNil))) (mSeq (mSet 3 (mC (.int 7))) (mSeq (mFor (iR1 (aCons (mCall lenD (aCons (mVar 0) (aNil))) (aNil))) (gN 4) lpOut) (mSeq (mFor (iR1 (aCons (mVar 1) (aNil))) (gN 4) lpFin) (mRet (mSl (mVar 2) oN (oS (mVar 1)))))))
def f_law_draws : MF := runF 8 m_law_draws
def m_law_next : MS := mSeq (mPutAug 0 iAdd (mC (.str "at")) (mC (.int 1))) (mSeq (mIfS (mB (mBin gtD (mBin subD (mVar 0) (mC (.str "at"))) (mCall lenD (aCons (mBin subD (mVar 0) (mC (.str "draws"))) (aNil))))) (mRet (mC (.int 0))) (mNx)) (mRet (mBin iMod (mCall intD2 (aCons (mBin subD (mBin subD (mVar 0) (mC (.str "draws"))) (mBin iSub (mBin subD (mVar 0) (mC (.str "at"))) (mC (.int 1)))) (aNil))) (mVar 1))))
def f_law_next : MFio := runIO 2 [true, false] m_law_next
def Dr (ds : List Int) : Prop := ∀ x ∈ ds, 0 ≤ x ∧ x < 997
def scrD (ns : List Int) : D := .dict [(.list (ns.map .int), .none)]
def wD (ds : List Int) (k : Nat) : D := .dict [(.str "draws", .list (ds.map .int)), (.str "at", .int k)]
theorem pow18 : iPow (.int 10) (.int 18) = some (.d (.int 1000000000000000000)) := by
  unfold iPow
  rfl
theorem qmod_pos {i j : Int} (h : 0 < j) : 0 ≤ qmod i j ∧ qmod i j < j := by
  unfold qmod
  rw [if_pos h]
  exact ⟨Int.emod_nonneg _ (by omega), Int.emod_lt_of_pos _ h⟩
theorem Dr.snoc {ds : List Int} {x : Int} (h : Dr ds) (h1 : 0 ≤ x) (h2 : x < 997) : Dr (ds ++ [x]) := fun y hy => by
  rcases List.mem_append.mp hy with q | q
  · exact h y q
  · rw [List.mem_singleton] at q
    subst q
    exact ⟨h1, h2⟩
theorem Dr.nil : Dr [] := fun _ h => by cases h
abbrev dE (sc : D) (many : Int) (ds : List Int) (mixed : Int) (x4 x5 x6 x7 : Option Sl) : VE := [some (.sh sc), some (.sh (.int many)), some (.own .ow (.list (ds.map .int))), some (.sh (.int mixed)), x4, x5, x6, x7]
theorem ap_int (ds : List Int) (x : Int) : ds.map PyData.int ++ [PyData.int x] = (ds ++ [x]).map PyData.int := by rw [List.map_append]; rfl
theorem ixN_ok {n j : Nat} (h : j < n) : ixN n (j : Int) = some j := by
  unfold ixN
  simp [h]
theorem scr_at {ns : List Int} {j : Nat} (h : j < ns.length) : subD (scrD ns) (.int j) = some (.d (.int ns[j])) := by
  show obd (atI (List.map PyData.int ns) (j : Int)) (fun x => some (BV.d x)) = _
  rw [atI_nat (j := j) (v := .int ns[j]) (by rw [List.getElem?_map, List.getElem?_eq_getElem h]; rfl)]
  rfl
theorem draws_in (sc : D) (many : Int) (ds : List Int) (mixed : Int) (x4 x5 : Option Sl) (rest : Int) (x7 : Option Sl) (h : Dr ds) (hl : ds.length ≤ 50000) (h7 : setOk (some x7) = true) :
    ∃ ds' rest' x7', forL (gN 7) lpIn (rngD 0 60)
      (dE sc many ds mixed x4 x5 (some (.sh (.int rest))) x7) = some (dE sc many ds' mixed x4 x5 (some (.sh (.int rest'))) x7', .nx) ∧ Dr ds' ∧ ds'.length ≤ ds.length + 60 ∧ setOk (some x7') = true := by
  obtain ⟨ρ', e, ds', rest', x7', rfl, h1, h2, h3⟩ := forL_inv (g := gN 7) (m := lpIn)
    (fun j ρ => ∃ ds' rest' x7', ρ = dE sc many ds' mixed x4 x5 (some (.sh (.int rest'))) x7' ∧ Dr ds' ∧ ds'.length ≤ ds.length + j ∧ setOk (some x7') = true) (rngD 0 60) 0 (dE sc many ds mixed x4 x5 (some (.sh (.int rest))) x7) (fun j d ρ hd hI => by
      obtain ⟨rfl, hj⟩ := rngD_get hd
      obtain ⟨ds', rest', x7', rfl, h1, h2, h3⟩ := hI
      refine ⟨dE sc many ds' mixed x4 x5 (some (.sh (.int rest'))) (some (.sh (.int (0 + j)))), ?_⟩
      have hz : szOk (ds'.length + 1) = true := sz1 (by omega)
      by_cases hr : 0 < rest'
      · refine ⟨dE sc many (ds' ++ [qmod rest' 997]) mixed x4 x5 (some (.sh (.int (qdiv rest' 997)))) (some (.sh (.int (0 + j)))), ?_, ?_, _, _, _, rfl, h1.snoc (qmod_pos (by decide)).1 (qmod_pos (by decide)).2, ?_, rfl⟩
        · simp [gN, h3]
        · simp [lpIn, runF, runIO, outD, env0, envIO, slOf, outsIO, ioD, mSeq, mPutAug, mPut, putAt, dPut, mBin, mC, mVar, varS, bnd, obd, peek, peekS, frz, frzS, peekAll, frzAll, dGetO, isK, keyK, dFind, keyB, sAD, sDA, flat1, iAdd, iSub, iMul, iDiv, iMod, iNeg, mUn, mutS, isDct, mIfS, mB, isB, eqD, neD, ltD, leD, gtD, geD, subD, mCall, aCons, aNil, lenD, intD, intD2, absD, mRet, mRetN, mNx, mBk, mCt, ownAny, mSet, setR, setOk_sh, setOk_ow, setOk_no, setOk_fv, mAsg, gN, gT, gsC, gsN, mTup, mLst, mDrop, mMut, isLst, apF, exF, mFor, iR1, iR2, iSeq, itD, mSl, slD, oN, oS, intO, mIf, mAndV, mOrV, mNotV, mAndT, mOrT, mNotT, mTru, truD, mIsN, mNotN, isND, isBD, notBD, mChain, mPar, mPL, normR, mApp, mDct, pCons, pNil, addD, mAug, tupleD, listD, sumD, maxD, minD, intsD, mComp, mYes, compL, wipeE, backE, freeS, forL, mAppIO, prepIO, ownD, slotsIO, putS, putIO, mulOk_r, mulOk_l, hr, hz, dE]
        · rw [List.length_append, List.length_singleton]; omega
      · refine ⟨dE sc many ds' mixed x4 x5 (some (.sh (.int rest'))) (some (.sh (.int (0 + j)))), ?_, ?_, _, _, _, rfl, h1, by omega, rfl⟩
        · simp [gN, h3]
        · simp [lpIn, runF, runIO, outD, env0, envIO, slOf, outsIO, ioD, mSeq, mPutAug, mPut, putAt, dPut, mBin, mC, mVar, varS, bnd, obd, peek, peekS, frz, frzS, peekAll, frzAll, dGetO, isK, keyK, dFind, keyB, sAD, sDA, flat1, iAdd, iSub, iMul, iDiv, iMod, iNeg, mUn, mutS, isDct, mIfS, mB, isB, eqD, neD, ltD, leD, gtD, geD, subD, mCall, aCons, aNil, lenD, intD, intD2, absD, mRet, mRetN, mNx, mBk, mCt, ownAny, mSet, setR, setOk_sh, setOk_ow, setOk_no, setOk_fv, mAsg, gN, gT, gsC, gsN, mTup, mLst, mDrop, mMut, isLst, apF, exF, mFor, iR1, iR2, iSeq, itD, mSl, slD, oN, oS, intO, mIf, mAndV, mOrV, mNotV, mAndT, mOrT, mNotT, mTru, truD, mIsN, mNotN, isND, isBD, notBD, mChain, mPar, mPL, normR, mApp, mDct, pCons, pNil, addD, mAug, tupleD, listD, sumD, maxD, minD, intsD, mComp, mYes, compL, wipeE, backE, freeS, forL, mAppIO, prepIO, ownD, slotsIO, putS, putIO, mulOk_r, mulOk_l, hr, hz, dE]) ⟨ds, rest, x7, rfl, h, by omega, h7⟩
  rw [rngD_len] at h2
  exact ⟨ds', rest', x7', e, h1, by omega, h3⟩
theorem scr_len (ns : List Int) : lenD [scrD ns] = some (.d (.int ns.length)) := by
  show some (BV.d (.int ((ns.map PyData.int).length : Nat))) = _
  rw [List.length_map]
theorem okR60 : okR 60 = true := rfl
theorem draws_out (ns : List Int) (hn : ns.length ≤ 63) (many : Int) (mixed : Int) (x4 x5 x6 x7 : Option Sl) (h4 : setOk (some x4) = true) (h5 : setOk (some x5) = true) (h6 : setOk (some x6) = true) (h7 : setOk (some x7) = true) :
    ∃ ds' mixed' x4' x5' x6' x7', forL (gN 4) lpOut (rngD 0 ns.length)
      (dE (scrD ns) many [] mixed x4 x5 x6 x7) = some (dE (scrD ns) many ds' mixed' x4' x5' x6' x7', .nx) ∧ Dr ds' ∧ ds'.length ≤ 62 * ns.length ∧ setOk (some x4') = true := by
  obtain ⟨ρ', e, ds', mixed', x4', x5', x6', x7', rfl, h1, h2, h3, _⟩ := forL_inv
    (g := gN 4) (m := lpOut) (I := fun j ρ => ∃ ds' mixed' x4' x5' x6' x7', ρ = dE (scrD ns) many ds' mixed' x4' x5' x6' x7' ∧ Dr ds' ∧ ds'.length ≤ 62 * j ∧ setOk (some x4') = true ∧ setOk (some x5') = true ∧ setOk (some x6') = true ∧ setOk (some x7') = true) (rngD 0 ns.length) 0 (dE (scrD ns) many [] mixed x4 x5 x6 x7) (fun j d ρ hd hI => by
      obtain ⟨rfl, hj⟩ := rngD_get hd
      obtain ⟨ds', mx, x4', x5', x6', x7', rfl, h1, h2, h4, h5, h6, h7⟩ := hI
      rw [Int.zero_add]
      have hz : szOk (ds'.length + 1) = true := sz1 (by omega)
      have hz2 : szOk (ds'.length + 1 + 1) = true := sz1 (by omega)
      let cell : Int := if ns[j] < 0 then -ns[j] else ns[j]
      let mx' : Int := qmod (mx * 48271 + qmod cell 1000003 + j) 65537
      by_cases hc : 1000000000000000000 ≤ cell
      · obtain ⟨ds2, rest2, x72, e2, g1, g2, g3⟩ := draws_in (scrD ns) many ds' mx' (some (.sh (.int j))) (some (.sh (.int cell))) cell x7' h1 (by omega) h7
        refine ⟨dE (scrD ns) many ds' mx (some (.sh (.int j))) x5' x6' x7', dE (scrD ns) many ds2 mx' (some (.sh (.int j))) (some (.sh (.int cell))) (some (.sh (.int rest2))) x72, ?_, ?_, ds2, mx', _, _, _, _, rfl, g1, by omega, rfl, rfl, rfl, g3⟩
        · simp [gN, h4, dE]
        simp only [cell, mx'] at e2 hc ⊢
        simp only [dE, List.map_append, List.map_cons, List.map_nil] at e2
        simp [lpOut, runF, runIO, outD, env0, envIO, slOf, outsIO, ioD, mSeq, mPutAug, mPut, putAt, dPut, mBin, mC, mVar, varS, bnd, obd, peek, peekS, frz, frzS, peekAll, frzAll, dGetO, isK, keyK, dFind, keyB, sAD, sDA, flat1, iAdd, iSub, iMul, iDiv, iMod, iNeg, mUn, mutS, isDct, mIfS, mB, isB, ltD, leD, gtD, geD, mCall, aCons, aNil, intD, intD2, absD, mRet, mRetN, mNx, mBk, mCt, ownAny, mSet, setR, setOk_sh, setOk_ow, setOk_no, setOk_fv, mAsg, gN, gT, gsC, gsN, mTup, mLst, mDrop, mMut, isLst, apF, exF, mFor, iR1, iR2, iSeq, itD, mSl, slD, oN, oS, intO, mIf, mAndV, mOrV, mNotV, mAndT, mOrT, mNotT, mTru, truD, mIsN, mNotN, isND, isBD, notBD, mChain, mPar, mPL, normR, mApp, mDct, pCons, pNil, addD, mAug, tupleD, listD, sumD, maxD, minD, intsD, mComp, mYes, compL, wipeE, backE, freeS, forL, mAppIO, prepIO, ownD, slotsIO, putS, putIO, mulOk_r, mulOk_l, eqD_int, neD_int, eqD_str, neD_str, eqD_bl, neD_bl, dE, scr_at hj, h5, h6, pow18, hc, hz, rngD_len, okR60]
        exact e2
      · obtain ⟨ds2, rest2, x72, e2, g1, g2, g3⟩ := draws_in (scrD ns) many (ds' ++ [qmod cell 997] ++ [qmod (qmod (mx' * 69621 + 5) 65521) 997]) mx' (some (.sh (.int j))) (some (.sh (.int cell))) 0 x7' ((h1.snoc (qmod_pos (by decide)).1 (qmod_pos (by decide)).2).snoc (qmod_pos (by decide)).1 (qmod_pos (by decide)).2) (by simp only [List.length_append, List.length_singleton]; omega) h7
        refine ⟨dE (scrD ns) many ds' mx (some (.sh (.int j))) x5' x6' x7', dE (scrD ns) many ds2 mx' (some (.sh (.int j))) (some (.sh (.int cell))) (some (.sh (.int rest2))) x72, ?_, ?_, ds2, mx', _, _, _, _, rfl, g1, by simp only [List.length_append, List.length_singleton] at g2; omega, rfl, rfl, rfl, g3⟩
        · simp [gN, h4, dE]
        simp only [cell, mx'] at e2 hc ⊢
        simp only [dE, List.map_append, List.map_cons, List.map_nil, List.append_assoc, List.cons_append, List.nil_append] at e2
        simp [lpOut, runF, runIO, outD, env0, envIO, slOf, outsIO, ioD, mSeq, mPutAug, mPut, putAt, dPut, mBin, mC, mVar, varS, bnd, obd, peek, peekS, frz, frzS, peekAll, frzAll, dGetO, isK, keyK, dFind, keyB, sAD, sDA, flat1, iAdd, iSub, iMul, iDiv, iMod, iNeg, mUn, mutS, isDct, mIfS, mB, isB, ltD, leD, gtD, geD, mCall, aCons, aNil, intD, intD2, absD, mRet, mRetN, mNx, mBk, mCt, ownAny, mSet, setR, setOk_sh, setOk_ow, setOk_no, setOk_fv, mAsg, gN, gT, gsC, gsN, mTup, mLst, mDrop, mMut, isLst, apF, exF, mFor, iR1, iR2, iSeq, itD, mSl, slD, oN, oS, intO, mIf, mAndV, mOrV, mNotV, mAndT, mOrT, mNotT, mTru, truD, mIsN, mNotN, isND, isBD, notBD, mChain, mPar, mPL, normR, mApp, mDct, pCons, pNil, addD, mAug, tupleD, listD, sumD, maxD, minD, intsD, mComp, mYes, compL, wipeE, backE, freeS, forL, mAppIO, prepIO, ownD, slotsIO, putS, putIO, mulOk_r, mulOk_l, eqD_int, neD_int, eqD_str, neD_str, eqD_bl, neD_bl, dE, scr_at hj, h5, h6, pow18, hc, hz, hz2, rngD_len, okR60]
        exact e2) ⟨[], mixed, x4, x5, x6, x7, rfl, .nil, by simp, h4, h5, h6, h7⟩
  rw [rngD_len] at h2
  exact ⟨ds', mixed', x4', x5', x6', x7', e, h1, by omega, h3⟩
theorem draws_fin (sc : D) (many : Nat) (ds : List Int) (mixed : Int) (x4 x5 x6 x7 : Option Sl) (h : Dr ds) (hl : ds.length ≤ 10000) (hm : many ≤ 1000) (h4 : setOk (some x4) = true) :
    ∃ ds' mixed' x4', forL (gN 4) lpFin (rngD 0 many) (dE sc many ds mixed x4 x5 x6 x7) = some (dE sc many ds' mixed' x4' x5 x6 x7, .nx) ∧ Dr ds' := by
  obtain ⟨ρ', e, ds', mixed', x4', rfl, h1, h2, h3⟩ := forL_inv (g := gN 4) (m := lpFin)
    (I := fun j ρ => ∃ ds' mixed' x4', ρ = dE sc many ds' mixed' x4' x5 x6 x7 ∧ Dr ds' ∧ ds'.length ≤ ds.length + j ∧ setOk (some x4') = true) (rngD 0 many) 0 (dE sc many ds mixed x4 x5 x6 x7) (fun j d ρ hd hI => by
      obtain ⟨rfl, hj⟩ := rngD_get hd
      obtain ⟨ds', mx, x4', rfl, h1, h2, h4⟩ := hI
      rw [Int.zero_add]
      have hz : szOk (ds'.length + 1) = true := sz1 (by omega)
      refine ⟨dE sc many ds' mx (some (.sh (.int j))) x5 x6 x7, dE sc many (ds' ++ [qmod (qmod (mx * 16807 + j + 1) 65537) 997]) (qmod (mx * 16807 + j + 1) 65537) (some (.sh (.int j))) x5 x6 x7, ?_, ?_, _, _, _, rfl, h1.snoc (qmod_pos (by decide)).1 (qmod_pos (by decide)).2, by simp only [List.length_append, List.length_singleton]; omega, rfl⟩
      · simp [gN, h4, dE]
      · simp [lpFin, runF, runIO, outD, env0, envIO, slOf, outsIO, ioD, mSeq, mPutAug, mPut, putAt, dPut, mBin, mC, mVar, varS, bnd, obd, peek, peekS, frz, frzS, peekAll, frzAll, dGetO, isK, keyK, dFind, keyB, sAD, sDA, flat1, iAdd, iSub, iMul, iDiv, iMod, iNeg, mUn, mutS, isDct, mIfS, mB, isB, eqD, neD, ltD, leD, gtD, geD, subD, mCall, aCons, aNil, lenD, intD, intD2, absD, mRet, mRetN, mNx, mBk, mCt, ownAny, mSet, setR, setOk_sh, setOk_ow, setOk_no, setOk_fv, mAsg, gN, gT, gsC, gsN, mTup, mLst, mDrop, mMut, isLst, apF, exF, mFor, iR1, iR2, iSeq, itD, mSl, slD, oN, oS, intO, mIf, mAndV, mOrV, mNotV, mAndT, mOrT, mNotT, mTru, truD, mIsN, mNotN, isND, isBD, notBD, mChain, mPar, mPL, normR, mApp, mDct, pCons, pNil, addD, mAug, tupleD, listD, sumD, maxD, minD, intsD, mComp, mYes, compL, wipeE, backE, freeS, forL, mAppIO, prepIO, ownD, slotsIO, putS, putIO, mulOk_r, mulOk_l, dE, hz]) ⟨ds, mixed, x4, rfl, h, by omega, h4⟩
  exact ⟨ds', mixed', x4', e, h1⟩
theorem cut_map {α β : Type} (f : α → β) (xs : List α) (lo hi : Option Int) : cutL (xs.map f) lo hi = (cutL xs lo hi).map f := by
  unfold cutL
  rw [List.map_take, List.map_drop, List.length_map]
theorem cut_mem {α : Type} {xs : List α} {lo hi : Option Int} {x : α} (h : x ∈ cutL xs lo hi) : x ∈ xs := List.mem_of_mem_drop (List.mem_of_mem_take h)
theorem seq_nx {m m' : MS} {ρ ρ1 : VE} (h : m ρ = some (ρ1, .nx)) : mSeq m m' ρ = m' ρ1 := by
  unfold mSeq
  rw [h]
theorem seq_rt {m m' : MS} {ρ ρ1 : VE} {d : D} (h : m ρ = some (ρ1, .rt d)) : mSeq m m' ρ = some (ρ1, .rt d) := by
  unfold mSeq
  rw [h]
theorem for_of {mi : MI} {g : MG} {m : MS} {ρ ρ1 : VE} {L : List D} (h : mi ρ = some (L, ρ1)) : mFor mi g m ρ = forL g m L ρ1 := by
  unfold mFor
  rw [h]
  rfl
theorem okR_i {i : Int} (h : i.natAbs ≤ 1000000000) : okR i = true := Nat.ble_eq_true_of_le (by omega)
theorem okR_nat {n : Nat} (h : n ≤ 1000000) : okR n = true := okR_i (by omega)
theorem draws_gen (ns : List Int) (hn : ns.length ≤ 63) (many : Nat) (hm : many ≤ 1000) : ∃ ds, f_law_draws [scrD ns, .int many] = some (.list (ds.map .int)) ∧ Dr ds := by
  obtain ⟨ds1, mx1, x4, x5, x6, x7, e1, h1, l1, h4⟩ := draws_out ns hn many 7 none none none none rfl rfl rfl rfl
  obtain ⟨ds2, mx2, x42, e2, h2⟩ := draws_fin (scrD ns) many ds1 mx1 x4 x5 x6 x7 h1 (by omega) hm h4
  refine ⟨cutL ds2 none (some many), ?_, fun x hx => h2 x (cut_mem hx)⟩
  have hz : szOk 0 = true := by decide
  have hk : okR ns.length = true := okR_nat (by omega)
  have hk2 : okR many = true := okR_nat (by omega)
  have s1 : (mSet 2 (mLst (aNil))) [some (.sh (scrD ns)), some (.sh (.int many)), none, none, none, none, none, none] = some ([some (.sh (scrD ns)), some (.sh (.int many)), some (.own .ow (.list [])), none, none, none, none, none], .nx) := by
    simp [mSet, mLst, aNil, bnd, frzAll, hz, setR, setOk_no, obd]
  have s2 : (mSet 3 (mC (.int 7))) [some (.sh (scrD ns)), some (.sh (.int many)), some (.own .ow (.list [])), none, none, none, none, none] = some (dE (scrD ns) many [] 7 none none none none, .nx) := by
    simp [mSet, mC, bnd, setR, setOk_no, obd, dE]
  have i1 : (iR1 (aCons (mCall lenD (aCons (mVar 0) (aNil))) (aNil))) (dE (scrD ns) many [] 7 none none none none) = some (rngD 0 ns.length, dE (scrD ns) many [] 7 none none none none) := by
    simp [iR1, mCall, aCons, aNil, mVar, varS, bnd, obd, peekAll, peek, dE, scr_len, hk]
  have i2 : (iR1 (aCons (mVar 1) (aNil))) (dE (scrD ns) many ds1 mx1 x4 x5 x6 x7) = some (rngD 0 many, dE (scrD ns) many ds1 mx1 x4 x5 x6 x7) := by
    simp [iR1, aCons, aNil, mVar, varS, bnd, obd, peekAll, peek, dE, hk2]
  have r1 : (mRet (mSl (mVar 2) oN (oS (mVar 1)))) (dE (scrD ns) many ds2 mx2 x42 x5 x6 x7) = some (dE (scrD ns) many ds2 mx2 x42 x5 x6 x7, .rt (.list ((cutL ds2 none (some many)).map .int))) := by
    simp [mRet, mSl, mVar, varS, bnd, obd, peek, peekS, oN, oS, intO, slD, frz, dE, cut_map]
  have e0 : env0 8 [scrD ns, .int many] = [some (.sh (scrD ns)), some (.sh (.int many)), none, none, none, none, none, none] := rfl
  unfold f_law_draws runF m_law_draws
  rw [e0, seq_nx s1, seq_nx s2, seq_nx ((for_of i1).trans e1), seq_nx ((for_of i2).trans e2), r1]
  rfl
theorem draws_ok (ns : List Int) (hn : ns.length ≤ 63) : ∃ ds, f_law_draws [scrD ns, .int 200] = some (.list (ds.map .int)) ∧ Dr ds := draws_gen ns hn 200 (by decide)
theorem next_ok (ds : List Int) (k : Nat) (many : Int) (hd : Dr ds) (hm : 0 < many) : ∃ r, f_law_next [wD ds k, .int many] = some (.int r, [wD ds (k + 1), .none]) ∧ 0 ≤ r ∧ r < many ∧ r < 997 := by
  have hz : szOk 3 = true := by decide
  have hm0 : many ≠ 0 := by omega
  by_cases h : ds.length < k + 1
  · refine ⟨0, ?_, by omega, hm, by omega⟩
    have h' : (ds.length : Int) < k + 1 := by omega
    simp [f_law_next, m_law_next, runF, runIO, outD, env0, envIO, slOf, outsIO, ioD, mSeq, mPutAug, mPut, putAt, dPut, mBin, mC, mVar, varS, bnd, obd, peek, peekS, frz, frzS, peekAll, frzAll, dGetO, isK, keyK, dFind, keyB, sAD, sDA, flat1, iAdd, iSub, iMul, iDiv, iMod, iNeg, mUn, mutS, isDct, mIfS, mB, isB, eqD, neD, ltD, leD, gtD, geD, subD, mCall, aCons, aNil, lenD, intD, intD2, absD, mRet, mRetN, mNx, mBk, mCt, ownAny, mSet, setR, setOk_sh, setOk_ow, setOk_no, setOk_fv, mAsg, gN, gT, gsC, gsN, mTup, mLst, mDrop, mMut, isLst, apF, exF, mFor, iR1, iR2, iSeq, itD, mSl, slD, oN, oS, intO, mIf, mAndV, mOrV, mNotV, mAndT, mOrT, mNotT, mTru, truD, mIsN, mNotN, isND, isBD, notBD, mChain, mPar, mPL, normR, mApp, mDct, pCons, pNil, addD, mAug, tupleD, listD, sumD, maxD, minD, intsD, mComp, mYes, compL, wipeE, backE, freeS, forL, mAppIO, prepIO, ownD, slotsIO, putS, putIO, mulOk_r, mulOk_l, wD, hz, h']
  · have hk : k < ds.length := by omega
    refine ⟨qmod ds[k] many, ?_, (qmod_pos hm).1, (qmod_pos hm).2, ?_⟩
    · have h' : ¬ (ds.length : Int) < k + 1 := by omega
      have hat : atI (List.map PyData.int ds) (k : Int) = some (.int ds[k]) := atI_nat (j := k) (by rw [List.getElem?_map, List.getElem?_eq_getElem hk]; rfl)
      have hx : (k : Int) + 1 - 1 = k := by omega
      simp [f_law_next, m_law_next, runF, runIO, outD, env0, envIO, slOf, outsIO, ioD, mSeq, mPutAug, mPut, putAt, dPut, mBin, mC, mVar, varS, bnd, obd, peek, peekS, frz, frzS, peekAll, frzAll, dGetO, isK, keyK, dFind, keyB, sAD, sDA, flat1, iAdd, iSub, iMul, iDiv, iMod, iNeg, mUn, mutS, isDct, mIfS, mB, isB, eqD, neD, ltD, leD, gtD, geD, subD, mCall, aCons, aNil, lenD, intD, intD2, absD, mRet, mRetN, mNx, mBk, mCt, ownAny, mSet, setR, setOk_sh, setOk_ow, setOk_no, setOk_fv, mAsg, gN, gT, gsC, gsN, mTup, mLst, mDrop, mMut, isLst, apF, exF, mFor, iR1, iR2, iSeq, itD, mSl, slD, oN, oS, intO, mIf, mAndV, mOrV, mNotV, mAndT, mOrT, mNotT, mTru, truD, mIsN, mNotN, isND, isBD, notBD, mChain, mPar, mPL, normR, mApp, mDct, pCons, pNil, addD, mAug, tupleD, listD, sumD, maxD, minD, intsD, mComp, mYes, compL, wipeE, backE, freeS, forL, mAppIO, prepIO, ownD, slotsIO, putS, putIO, mulOk_r, mulOk_l, wD, hz, h', ixD, hx, hat, hm0]
    · have := hd ds[k] (List.getElem_mem hk)
      unfold qmod
      rw [if_pos hm]
      by_cases hlt : ds[k] < many
      · rw [Int.emod_eq_of_lt this.1 hlt]; exact this.2
      · have := Int.emod_lt_of_pos ds[k] hm; omega
theorem nx {ds : List Int} {k : Nat} {many : Int} {me : ME} {ρ : VE} (hd : Dr ds) (h0 : ρ[0]? = some (some (.own .io (wD ds k)))) (he : me ρ = some (.d (.int many), ρ)) (hm : 0 < many) :
    ∃ r, mAppIO [true, false] f_law_next (aCons (mVar 0) (aCons me aNil)) ρ = some (.d (.int r), ρ.set 0 (some (.own .io (wD ds (k + 1))))) ∧ 0 ≤ r ∧ r < many ∧ r < 997 := by
  obtain ⟨r, e, h⟩ := next_ok ds k many hd hm
  refine ⟨r, ?_, h⟩
  simp [mAppIO, aCons, aNil, mVar, varS, h0, he, bnd, obd, prepIO, frz, ownD, slotsIO, e, putIO, putS]
def lpLaw (fh : MFio) : MS := mIfS (mNotT (mTru (mAppIO [true] fh (aCons (mVar 1) (aNil))))) (mRet (mC (.bool false))) (mNx)
def m_lawG (fh : MFio) : MS := mSeq (mSet 1 (mDct (pCons (mC (.str "draws")) (mApp f_law_draws (aCons (mVar 0) (aCons (mC (.int 200)) (aNil)))) (pCons (mC (.str "at")) (mC (.int 0)) (pNil))))) (mSeq (mFor (iR1 (aCons (mC (.int 4)) (aNil))) (gN 2) (lpLaw fh)) (mRet (mC (.bool true))))
def f_lawG (fh : MFio) : MF := runF 3 (m_lawG fh)
theorem law_ok {fh : MFio} (hh : ∀ ds k, Dr ds → ∃ k', fh [wD ds k] = some (.bool true, [wD ds k'])) (ns : List Int) (hn : ns.length ≤ 63) : f_lawG fh [scrD ns] = some (.bool true) := by
  obtain ⟨ds, e, hd⟩ := draws_ok ns hn
  have s1 : (mSet 1 (mDct (pCons (mC (.str "draws")) (mApp f_law_draws (aCons (mVar 0) (aCons (mC (.int 200)) (aNil)))) (pCons (mC (.str "at")) (mC (.int 0)) (pNil))))) [some (.sh (scrD ns)), none, none] = some ([some (.sh (scrD ns)), some (.own .ow (wD ds 0)), none], .nx) := by
    have : dPut (dPut [] (.str "draws") (.list (ds.map .int))) (.str "at") (.int 0) = [(.str "draws", .list (ds.map .int)), (.str "at", .int (0 : Nat))] := by
      simp [dPut, keyB, sDA]
    simp [mSet, mDct, pCons, pNil, mC, mApp, mVar, varS, aCons, aNil, bnd, obd, peekAll, peek, peekS, frzAll, frz, keyK, e, flat1, setR, setOk_no, wD, this]
  obtain ⟨ρ', e2, k, x2, rfl, h2⟩ := forL_inv (g := gN 2) (m := lpLaw fh) (I := fun _ ρ => ∃ k x2, ρ = [some (.sh (scrD ns)), some (.own .ow (wD ds k)), x2] ∧ setOk (some x2) = true) (rngD 0 4) 0 [some (.sh (scrD ns)), some (.own .ow (wD ds 0)), none] (fun j d ρ hj hI => by
    obtain ⟨k, x2, rfl, h2⟩ := hI
    obtain ⟨k', ek⟩ := hh ds k hd
    refine ⟨[some (.sh (scrD ns)), some (.own .ow (wD ds k)), some (.sh d)], [some (.sh (scrD ns)), some (.own .ow (wD ds k')), some (.sh d)], ?_, ?_, k', _, rfl, rfl⟩
    · simp [gN, h2]
    · simp [lpLaw, mIfS, mNotT, mTru, mAppIO, aCons, aNil, mVar, varS, bnd, obd, prepIO, ownD, slotsIO, ek, putIO, putS, peek, truD, mNx]) ⟨0, none, rfl, rfl⟩
  have i1 : (iR1 (aCons (mC (.int 4)) (aNil))) [some (.sh (scrD ns)), some (.own .ow (wD ds 0)), none] = some (rngD 0 4, [some (.sh (scrD ns)), some (.own .ow (wD ds 0)), none]) := rfl
  have e0 : env0 3 [scrD ns] = [some (.sh (scrD ns)), none, none] := rfl
  unfold f_lawG runF m_lawG
  rw [e0, seq_nx s1, seq_nx ((for_of i1).trans e2)]
  rfl
def spLaw (K : PySem.W.Frag) : Sp := fun vs H Q _ => ∃ (a : Addr) (ns : List Int), vs = [.ref a] ∧ SqL K H a (ns.map V.int) ∧ ns.length ≤ 63 ∧ ∀ H', Q (.bl true) H'
theorem law_end {P : Program} {w : World} {K : PySem.W.Frag} {mg : PySem.Str → Option Value} {base : Heap} {f : Addr} {fd : FuncData} {k : Nat} {fh : MFio} (hh : ∀ ds k, Dr ds → ∃ k', fh [wD ds k] = some (.bool true, [wD ds k']))
    (G : FnOk P w K mg base CX0 k f fd ["script"] (Prom K 1 (f_lawG fh))) : FnOk P w K mg base CX0 k f fd ["script"] (spLaw K) := by
  refine G.imp fun vs H Q E h => ?_
  obtain ⟨a, ns, rfl, hS, hn, q⟩ := h
  refine ⟨fun _ => False, [scrD ns], .bool true, fun _ z => z.elim, .cons (.scr ?_ (rpA_ints ns)) .nil, rfl, law_ok hh ns hn, fun v H' _ rv => ?_⟩
  · rcases hS with h | ⟨o, its, n, h⟩
    · exact .inl ⟨h, fun z => z⟩
    · exact .inr ⟨o, its, n, h⟩
  · cases rv with
    | bl b => exact q H'
end Nb

namespace Nb
open PySem PySem.Spec PyProof.Rows L2
theorem compL_pure {g : MG} {mt : MT} {me : ME} {vs : List Nat} {ρ : VE} (p : D → Bool) (h : D → D) : ∀ (ds acc : List D), (∀ d ∈ ds, ∃ ρd, g d ρ = some ρd ∧ mt ρd = some (p d, ρd) ∧ (p d = true → ∃ r, me ρd = some (r, ρd) ∧ frz ρd r = some (h d, ρd)) ∧ freeS ρd vs = true ∧ wipeE ρd vs = ρ) →
    acc.length + ds.length ≤ 100000 → compL g mt me vs ds ρ acc = some (acc ++ (ds.filter p).map h, ρ)
  | [], acc, _, _ => by
    show some (acc, ρ) = _
    rw [List.filter_nil, List.map_nil, List.append_nil]
  | d :: ds, acc, s, hz => by
    obtain ⟨ρd, e1, e2, e3, e4, e5⟩ := s d (List.mem_cons_self ..)
    rw [List.length_cons] at hz
    have hsz : szOk (acc.length + 1) = true := sz1 (by omega)
    unfold compL
    rw [e1]
    simp only [obd, e2, bnd]
    cases hp : p d with
    | true =>
      obtain ⟨r, e6, e7⟩ := e3 hp
      rw [if_pos rfl, e6]
      simp only [e7, hsz, e4, Bool.and_self, if_true]
      rw [e5, compL_pure p h ds (acc ++ [h d]) (fun d hd => s d (List.mem_cons_of_mem _ hd)) (by rw [List.length_append, List.length_singleton]; omega), List.filter_cons_of_pos hp, List.map_cons, List.append_assoc]
      rfl
    | false =>
      rw [if_neg (by decide), if_pos e4, e5, compL_pure p h ds acc (fun d hd => s d (List.mem_cons_of_mem _ hd)) (by omega), List.filter_cons_of_neg (by rw [hp]; decide)]
theorem comp_pure {mi : MI} {g : MG} {mt : MT} {me : ME} {vs : List Nat} {ρ ρ0 : VE} {ds : List D} (hi : mi ρ = some (ds, ρ0)) (hf : freeS ρ0 vs = true) (p : D → Bool) (h : D → D)
    (s : ∀ d ∈ ds, ∃ ρd, g d (wipeE ρ0 vs) = some ρd ∧ mt ρd = some (p d, ρd) ∧ (p d = true → ∃ r, me ρd = some (r, ρd) ∧ frz ρd r = some (h d, ρd)) ∧ freeS ρd vs = true ∧ wipeE ρd vs = wipeE ρ0 vs) (hz : ds.length ≤ 100000) :
    mComp mi g mt me vs ρ = some (.new (.list ((ds.filter p).map h)), backE (wipeE ρ0 vs) ρ0 vs) := by
  unfold mComp
  rw [hi]
  simp only [bnd]
  rw [if_pos hf, compL_pure p h ds [] s (by simpa using hz)]
  rfl
theorem compL_inv {g : MG} {mt : MT} {me : ME} {vs : List Nat} (I : Nat → VE → List D → Prop) : ∀ (L : List D) (i : Nat) (ρ : VE) (acc : List D), (∀ (j : Nat) (d : D) (ρ : VE) (acc : List D), L[j]? = some d → I (i + j) ρ acc → ∃ ρ1, g d ρ = some ρ1 ∧ mt ρ1 = some (true, ρ1) ∧ ∃ r ρ3 x ρ4, me ρ1 = some (r, ρ3) ∧ frz ρ3 r = some (x, ρ4) ∧ szOk (acc.length + 1) = true ∧ freeS ρ4 vs = true ∧ I (i + j + 1) (wipeE ρ4 vs) (acc ++ [x])) → I i ρ acc →
    ∃ xs ρ', compL g mt me vs L ρ acc = some (xs, ρ') ∧ I (i + L.length) ρ' xs
  | [], i, ρ, acc, _, h => ⟨acc, ρ, rfl, h⟩
  | d :: ds, i, ρ, acc, s, h => by
    obtain ⟨ρ1, e1, e2, r, ρ3, x, ρ4, e3, e4, e5, e6, h2⟩ := s 0 d ρ acc rfl h
    obtain ⟨xs, ρ', e7, h3⟩ := compL_inv I ds (i + 1) (wipeE ρ4 vs) (acc ++ [x]) (fun j d ρ acc hd hj => by
      have := s (j + 1) d ρ acc hd (by rwa [show i + (j + 1) = i + 1 + j by omega])
      rwa [show i + (j + 1) + 1 = i + 1 + j + 1 by omega] at this) h2
    refine ⟨xs, ρ', ?_, by rw [List.length_cons, show i + (ds.length + 1) = i + 1 + ds.length by omega]; exact h3⟩
    unfold compL
    rw [e1]
    simp only [obd, e2, bnd]
    simp only [if_true, e3, e4, e5, e6, Bool.and_self]
    exact e7
theorem app_of {f : MF} {ms : MA} {ρ ρ1 : VE} {rs : List BV} {ds : List D} {r : D} (h1 : ms ρ = some (rs, ρ1)) (h2 : peekAll ρ1 rs = some ds) (h3 : f ds = some r) (h4 : flat1 r = true) : mApp f ms ρ = some (.d r, ρ1) := by
  unfold mApp
  rw [h1]
  simp only [bnd, h2, obd, h3, h4, if_true]
theorem qdiv_nat {a b : Nat} (h : 0 < b) : qdiv (a : Int) (b : Int) = ((a / b : Nat) : Int) := by
  unfold qdiv
  rw [if_pos (by omega)]
  exact Int.natCast_ediv a b
theorem qmod_nat {a b : Nat} (h : 0 < b) : qmod (a : Int) (b : Int) = ((a % b : Nat) : Int) := by
  unfold qmod
  rw [if_pos (by omega)]
  exact Int.natCast_emod a b
theorem eq_tup2 (a b c d : Int) : eqD (.tuple [.int a, .int b]) (.tuple [.int c, .int d]) = some (.d (.bool (a == c && b == d))) := by
  simp [eqD, SeqAt.shaped, PyData.canLay0, PyData.canLayAll0, PyData.depth, PyData.depthAll, PyData.eqv, PyData.eqvAll]
theorem ne_tup2 (a b c d : Int) : neD (.tuple [.int a, .int b]) (.tuple [.int c, .int d]) = some (.d (.bool (!(a == c && b == d)))) := by
  simp [neD, SeqAt.shaped, PyData.canLay0, PyData.canLayAll0, PyData.depth, PyData.depthAll, PyData.eqv, PyData.eqvAll]
theorem set_of {i : Nat} {me : ME} {ρ ρ1 ρ2 : VE} {r : BV} (h : me ρ = some (r, ρ1)) (h2 : setR i r ρ1 = some ρ2) : mSet i me ρ = some (ρ2, .nx) := by
  unfold mSet
  rw [h]
  simp only [bnd, h2, obd]
theorem bin_of {f : D → D → Option BV} {ma mb : ME} {ρ ρ1 ρ2 : VE} {r1 r2 b : BV} {d e : D} (ha : ma ρ = some (r1, ρ1)) (hb : mb ρ1 = some (r2, ρ2)) (hp : peek ρ2 r1 = some d) (hq : peek ρ2 r2 = some e) (hf : f d e = some b) : mBin f ma mb ρ = some (b, ρ2) := by
  unfold mBin
  rw [ha]
  simp only [bnd, hb, hp, hq, obd, hf]
theorem acons_of {m : ME} {ms : MA} {ρ ρ1 ρ2 : VE} {r : BV} {rs : List BV} (h1 : m ρ = some (r, ρ1)) (h2 : ms ρ1 = some (rs, ρ2)) : aCons m ms ρ = some (r :: rs, ρ2) := by
  unfold aCons
  rw [h1]
  simp only [bnd, h2]
theorem tup_of {ms : MA} {ρ ρ1 ρ2 : VE} {rs : List BV} {ds : List D} (h : ms ρ = some (rs, ρ1)) (h2 : frzAll ρ1 rs = some (ds, ρ2)) (h3 : szOk ds.length = true) : mTup ms ρ = some (.d (.tuple ds), ρ2) := by
  unfold mTup
  rw [h]
  simp only [bnd, h2, h3, if_true]
theorem lst_of {ms : MA} {ρ ρ1 ρ2 : VE} {rs : List BV} {ds : List D} (h : ms ρ = some (rs, ρ1)) (h2 : frzAll ρ1 rs = some (ds, ρ2)) (h3 : szOk ds.length = true) : mLst ms ρ = some (.new (.list ds), ρ2) := by
  unfold mLst
  rw [h]
  simp only [bnd, h2, h3, if_true]
theorem asg_of {me : ME} {g : MG} {ρ ρ1 ρ2 ρ3 : VE} {r : BV} {d : D} (h : me ρ = some (r, ρ1)) (h2 : frz ρ1 r = some (d, ρ2)) (h3 : g d ρ2 = some ρ3) : mAsg me g ρ = some (ρ3, .nx) := by
  unfold mAsg
  rw [h]
  simp only [bnd, h2, obd, h3]
theorem par_of {is : List Nat} {ms : List ME} {ρ ρ' : VE} (h : mPL is ms ρ = some ρ') : mPar is ms ρ = some (ρ', .nx) := by
  unfold mPar
  rw [h]
  rfl
theorem pl_cons {i : Nat} {is : List Nat} {m : ME} {ms : List ME} {ρ ρ1 ρ2 ρ3 ρ4 : VE} {r r' : BV} (h : m ρ = some (r, ρ1)) (n : normR r ρ1 = some (r', ρ2)) (t : mPL is ms ρ2 = some ρ3) (s : setR i r' ρ3 = some ρ4) : mPL (i :: is) (m :: ms) ρ = some ρ4 := by
  unfold mPL
  rw [h]
  simp only [bnd, n, t, obd, s]
theorem call_of {f : List D → Option BV} {ms : MA} {ρ ρ1 : VE} {rs : List BV} {ds : List D} {b : BV} (h : ms ρ = some (rs, ρ1)) (h2 : peekAll ρ1 rs = some ds) (h3 : f ds = some b) : mCall f ms ρ = some (b, ρ1) := by
  unfold mCall
  rw [h]
  simp only [bnd, h2, obd, h3]
theorem app_of' {f : MF} {ms : MA} {ρ ρ1 ρ2 : VE} {rs : List BV} {ds : List D} {r : D} (h1 : ms ρ = some (rs, ρ1)) (h2 : peekAll ρ1 rs = some ds) (h3 : f ds = some r) (h4 : frzAll ρ1 rs = some (ds, ρ2)) (h5 : ρ1 = ρ2) : mApp f ms ρ = some (.d r, ρ1) := by
  subst h5
  unfold mApp
  rw [h1]
  simp only [bnd, h2, obd, h3, h4]
  split <;> rfl
theorem comp_draws {mi : MI} {i n : Nat} {me : ME} {ρ : VE} {ds : List Int} {k : Nat} {P : D → Prop} (hi : mi ρ = some (rngD 0 n, ρ)) (hn : n ≤ 100000) (h0 : ρ[0]? = some (some (.own .io (wD ds k)))) (hi0 : 0 < i) (hil : i < ρ.length) (hf : ρ[i]? = some none)
    (step : ∀ (k : Nat) (j : Nat), j < n → ∃ x, P x ∧ ∃ r, me ((ρ.set 0 (some (.own .io (wD ds k)))).set i (some (.sh (.int j)))) = some (r, (ρ.set 0 (some (.own .io (wD ds (k + 1))))).set i (some (.sh (.int j)))) ∧ frz ((ρ.set 0 (some (.own .io (wD ds (k + 1))))).set i (some (.sh (.int j)))) r = some (x, (ρ.set 0 (some (.own .io (wD ds (k + 1))))).set i (some (.sh (.int j))))) :
    ∃ xs k', mComp mi (gN i) mYes me [i] ρ = some (.new (.list xs), ρ.set 0 (some (.own .io (wD ds k')))) ∧ xs.length = n ∧ ∀ x ∈ xs, P x := by
  have e0 : ρ.set 0 (some (.own .io (wD ds k))) = ρ := by
    apply List.ext_getElem?
    intro j
    by_cases hj : j = 0
    · subst hj
      rw [List.getElem?_set_self (by omega), h0]
    · rw [List.getElem?_set_ne (Ne.symm hj)]
  have ei : ∀ {ρ' : VE}, ρ'[i]? = some none → ρ'.set i none = ρ' := fun {ρ'} h => by
    apply List.ext_getElem?
    intro j
    by_cases hj : j = i
    · subst hj
      rw [List.getElem?_set_self (List.getElem?_eq_some_iff.mp h).1, h]
    · rw [List.getElem?_set_ne (Ne.symm hj)]
  have hs : ∀ k', (ρ.set 0 (some (.own .io (wD ds k'))))[i]? = some none := fun k' => by rw [List.getElem?_set_ne (by omega), hf]
  obtain ⟨xs, ρ', e, k', rfl, hl, hP⟩ := compL_inv (g := gN i) (mt := mYes) (me := me) (vs := [i]) (I := fun j ρ1 acc => ∃ k', ρ1 = ρ.set 0 (some (.own .io (wD ds k'))) ∧ acc.length = j ∧ ∀ x ∈ acc, P x) (rngD 0 n) 0 ρ [] (fun j d ρ1 acc hd hI => by
    obtain ⟨rfl, hj⟩ := rngD_get hd
    obtain ⟨k', rfl, hl, hP⟩ := hI
    rw [Int.zero_add]
    obtain ⟨x, hx, r, e1, e2⟩ := step k' j hj
    refine ⟨(ρ.set 0 (some (.own .io (wD ds k')))).set i (some (.sh (.int j))), ?_, rfl, r, _, x, _, e1, e2, sz1 (by omega), ?_, k' + 1, ?_, by rw [List.length_append, List.length_singleton]; omega, fun y hy => ?_⟩
    · unfold gN
      rw [hs]
      rfl
    · unfold freeS
      simp [List.getElem?_set_self, hil]
    · show ((ρ.set 0 _).set i _).set i none = _
      rw [List.set_set, ei (hs _)]
    · rcases List.mem_append.mp hy with h | h
      · exact hP y h
      · rw [List.mem_singleton] at h
        subst h
        exact hx) ⟨k, e0.symm, rfl, fun _ h => by cases h⟩
  rw [rngD_len, Nat.zero_add] at hl
  refine ⟨xs, k', ?_, hl, hP⟩
  have hw : wipeE ρ [i] = ρ := ei hf
  have hfr : freeS ρ [i] = true := by
    unfold freeS
    simp [hf]
  unfold mComp
  rw [hi]
  simp only [bnd]
  rw [if_pos hfr, hw, e]
  show some (BV.new (.list xs), backE (ρ.set 0 _) ρ [i]) = _
  unfold backE
  rw [hf]
  show some (BV.new (.list xs), (ρ.set 0 _).set i none) = _
  rw [ei (hs _)]
theorem nxn {ds : List Int} {k : Nat} {many : Nat} {me : ME} {ρ : VE} (hd : Dr ds) (h0 : ρ[0]? = some (some (.own .io (wD ds k)))) (he : me ρ = some (.d (.int many), ρ)) (hm : 0 < many) :
    ∃ r : Nat, mAppIO [true, false] f_law_next (aCons (mVar 0) (aCons me aNil)) ρ = some (.d (.int r), ρ.set 0 (some (.own .io (wD ds (k + 1))))) ∧ r < many ∧ r < 997 := by
  obtain ⟨r, e, h1, h2, h3⟩ := nx hd h0 he (by omega)
  obtain ⟨a, rfl⟩ : ∃ a : Nat, r = a := ⟨r.toNat, by omega⟩
  exact ⟨a, e, by omega, by omega⟩
theorem mB_of {m : ME} {ρ ρ1 : VE} {b : Bool} (h : m ρ = some (.d (.bool b), ρ1)) : mB m ρ = some (b, ρ1) := by
  unfold mB
  rw [h]
  rfl
theorem ifs_of {mt : MT} {m m' : MS} {ρ ρ1 : VE} {b : Bool} (h : mt ρ = some (b, ρ1)) : mIfS mt m m' ρ = if b then m ρ1 else m' ρ1 := by
  unfold mIfS
  rw [h]
  rfl
theorem ifs_no {mt : MT} {m : MS} {ρ ρ1 : VE} (h : mt ρ = some (false, ρ1)) : mIfS mt m mNx ρ = some (ρ1, .nx) := ifs_of h
theorem or_of {m m' : MT} {ρ ρ1 ρ2 : VE} (h : m ρ = some (false, ρ1)) (h2 : m' ρ1 = some (false, ρ2)) : mOrT m m' ρ = some (false, ρ2) := by
  unfold mOrT
  rw [h]
  simp only [bnd, h2]
  rfl
theorem and_of {m m' : ME} {ρ ρ1 ρ2 : VE} {b : Bool} (h : m ρ = some (.d (.bool true), ρ1)) (h2 : m' ρ1 = some (.d (.bool b), ρ2)) : mAndV m m' ρ = some (.d (.bool b), ρ2) := by
  unfold mAndV
  rw [h]
  simp only [bnd, h2]
  rfl
theorem ret_of {me : ME} {ρ ρ1 ρ2 : VE} {r : BV} {d : D} (h : me ρ = some (r, ρ1)) (h2 : frz ρ1 r = some (d, ρ2)) : mRet me ρ = some (ρ2, .rt d) := by
  unfold mRet
  rw [h]
  simp only [bnd, h2]
theorem un_of {f : D → Option BV} {ma : ME} {ρ ρ1 : VE} {r b : BV} {d : D} (h : ma ρ = some (r, ρ1)) (hp : peek ρ1 r = some d) (hf : f d = some b) : mUn f ma ρ = some (b, ρ1) := by
  unfold mUn
  rw [h]
  simp only [bnd, hp, obd, hf]
theorem nats_of : ∀ {xs : List D}, (∀ x ∈ xs, ∃ a : Nat, x = .int a) → ∃ ns : List Nat, xs = ns.map (fun a => PyData.int (a : Nat))
  | [], _ => ⟨[], rfl⟩
  | x :: xs, h => by
    obtain ⟨a, rfl⟩ := h x (List.mem_cons_self ..)
    obtain ⟨ns, rfl⟩ := nats_of (xs := xs) fun y hy => h y (List.mem_cons_of_mem _ hy)
    exact ⟨a :: ns, rfl⟩
theorem mul_of {i j : Int} (h : mulOk i j = true) : iMul (.int i) (.int j) = some (.d (.int (i * j))) := if_pos h
theorem nat_eq0 (r : Nat) : ((r : Int) == 0) = decide (r = 0) := by
  rw [Bool.eq_iff_iff]
  simp
theorem compL2_pure {g g1 : MG} {mt mt1 : MT} {mi1 : MI} {me : ME} {vs vs1 : List Nat} {ρ : VE} (L : D → List D) : ∀ (ds acc : List D), (∀ d ∈ ds, ∃ ρd, g d ρ = some ρd ∧ mt ρd = some (true, ρd) ∧ mi1 ρd = some (L d, ρd) ∧ freeS ρd vs1 = true ∧
      (∀ y ∈ L d, ∃ ρy, g1 y (wipeE ρd vs1) = some ρy ∧ mt1 ρy = some (true, ρy) ∧ (∃ r, me ρy = some (r, ρy) ∧ frz ρy r = some (y, ρy)) ∧ freeS ρy vs1 = true ∧ wipeE ρy vs1 = wipeE ρd vs1) ∧ freeS (wipeE ρd vs1) vs = true ∧ wipeE (wipeE ρd vs1) vs = ρ) →
    acc.length + (ds.flatMap L).length ≤ 100000 → compL2 g mt mi1 g1 mt1 me vs vs1 ds ρ acc = some (acc ++ ds.flatMap L, ρ)
  | [], acc, _, _ => by
    show some (acc, ρ) = _
    rw [List.flatMap_nil, List.append_nil]
  | d :: ds, acc, s, hz => by
    obtain ⟨ρd, e1, e2, e3, e4, e5, e6, e7⟩ := s d (List.mem_cons_self ..)
    rw [List.flatMap_cons, List.length_append] at hz
    have ei := compL_pure (g := g1) (mt := mt1) (me := me) (vs := vs1) (ρ := wipeE ρd vs1) (fun _ => true) id (L d) acc (fun y hy => by
      obtain ⟨ρy, q1, q2, q3, q4, q5⟩ := e5 y hy
      exact ⟨ρy, q1, q2, fun _ => q3, q4, q5⟩) (by omega)
    rw [List.filter_eq_self.mpr (fun _ _ => rfl), List.map_id] at ei
    unfold compL2
    rw [e1]
    simp only [obd, e2, bnd, if_true, e3, e4, ei, e6, e7]
    rw [compL2_pure L ds (acc ++ L d) (fun d hd => s d (List.mem_cons_of_mem _ hd)) (by rw [List.length_append]; omega), List.flatMap_cons, List.append_assoc]
theorem comp2_pure {mi mi1 : MI} {g g1 : MG} {mt mt1 : MT} {me : ME} {vs vs1 : List Nat} {ρ ρ0 : VE} {ds : List D} (L : D → List D) (hi : mi ρ = some (ds, ρ0)) (hf : freeS ρ0 vs = true)
    (s : ∀ d ∈ ds, ∃ ρd, g d (wipeE ρ0 vs) = some ρd ∧ mt ρd = some (true, ρd) ∧ mi1 ρd = some (L d, ρd) ∧ freeS ρd vs1 = true ∧
      (∀ y ∈ L d, ∃ ρy, g1 y (wipeE ρd vs1) = some ρy ∧ mt1 ρy = some (true, ρy) ∧ (∃ r, me ρy = some (r, ρy) ∧ frz ρy r = some (y, ρy)) ∧ freeS ρy vs1 = true ∧ wipeE ρy vs1 = wipeE ρd vs1) ∧ freeS (wipeE ρd vs1) vs = true ∧ wipeE (wipeE ρd vs1) vs = wipeE ρ0 vs) (hz : (ds.flatMap L).length ≤ 100000) :
    mComp2 mi g mt mi1 g1 mt1 me vs vs1 ρ = some (.new (.list (ds.flatMap L)), backE (wipeE ρ0 vs) ρ0 vs) := by
  unfold mComp2
  rw [hi]
  simp only [bnd]
  rw [if_pos hf, compL2_pure L ds [] s (by simpa using hz)]
  rfl
theorem ss_of {me : ME} {ρ ρ1 : VE} {r : BV} {d : D} {is : List Int} (h : me ρ = some (r, ρ1)) (h2 : peek ρ1 r = some d) (h3 : lstI d = some is) (h4 : is.length < 64) : mSS me ρ = some (.new (.list ((usort is).map PyData.int)), ρ1) := by
  unfold mSS
  rw [h]
  simp only [bnd, h2, obd, h3, decide_eq_true h4, if_true]
theorem mif_of {mt : MT} {ma mb : ME} {ρ ρ1 : VE} {b : Bool} (h : mt ρ = some (b, ρ1)) : mIf mt ma mb ρ = if b then ma ρ1 else mb ρ1 := by
  unfold mIf
  rw [h]
  rfl
end Nb

namespace Nb
open PySem PySem.Spec PyProof.Rows L2
def m_shown_clock : MS := mRet (mIf (mB (mBin ltD (mVar 2) (mVar 0))) (mVar 2) (mBin addD (mVar 2) (mVar 1)))
def f_shown_clock : MF := runF 3 m_shown_clock
def m_minutes_shown : MS := mSeq (mSet 3 (mIf (mB (mBin ltD (mVar 2) (mVar 0))) (mLst (aCons (mVar 2) (aNil))) (mLst (aNil)))) (mRet (mCall tupleD (aCons (mBin addD (mVar 3) (mIf (mB (mBin geD (mBin iSub (mVar 2) (mVar 1)) (mVar 0))) (mLst (aCons (mBin iSub (mVar 2) (mVar 1)) (aNil))) (mLst (aNil)))) (aNil))))
def f_minutes_shown : MF := runF 4 m_minutes_shown
def m_skipped : MS := mRet (mIf (mB (mBin gtD (mVar 1) (mC (.int 0)))) (mTup (aCons (mVar 0) (aCons (mBin addD (mVar 0) (mVar 1)) (aNil)))) (mC .none))
def f_skipped : MF := runF 2 m_skipped
def m_doubled : MS := mRet (mIf (mB (mBin ltD (mVar 1) (mC (.int 0)))) (mTup (aCons (mBin addD (mVar 0) (mVar 1)) (aCons (mVar 0) (aNil)))) (mC .none))
def f_doubled : MF := runF 2 m_doubled
def m_kept_by_clock : MS := mRet (mCall tupleD (aCons (mSS (mComp2 (iSeq (mVar 2)) (gN 3) (mYes) (iSeq (mApp f_minutes_shown (aCons (mVar 0) (aCons (mVar 1) (aCons (mVar 3) (aNil)))))) (gN 4) (mYes) (mVar 4) [3, 4] [4])) (aNil)))
def f_kept_by_clock : MF := runF 5 m_kept_by_clock
def m_lost_trips : MS := mRet (mCall tupleD (aCons (mComp (iSeq (mVar 2)) (gN 3) (mB (mBin eqD (mApp f_minutes_shown (aCons (mVar 0) (aCons (mVar 1) (aCons (mVar 3) (aNil))))) (mTup (aNil)))) (mVar 3) [3]) (aNil)))
def f_lost_trips : MF := runF 4 m_lost_trips
def m_once_each : MS := mSeq (mSet 3 (mComp (iSeq (mVar 2)) (gN 4) (mYes) (mApp f_minutes_shown (aCons (mVar 0) (aCons (mVar 1) (aCons (mVar 4) (aNil))))) [4])) (mRet (mCall tupleD (aCons (mSS (mComp (iSeq (mVar 3)) (gN 5) (mB (mBin neD (mVar 5) (mTup (aNil)))) (mBin subD (mVar 5) (mC (.int 0))) [5])) (aNil))))
def f_once_each : MF := runF 6 m_once_each


def b_law_holds_11 : MS := mRet (mAndV (mBin eqD (mApp f_kept_by_clock (aCons (mVar 1) (aCons (mVar 2) (aCons (mVar 6) (aNil))))) (mCall tupleD (aCons (mCall srtD (aCons (mVar 7) (aNil))) (aNil)))) (mAndV (mBin eqD (mApp f_lost_trips (aCons (mVar 1) (aCons (mVar 2) (aCons (mVar 6) (aNil))))) (mVar 9)) (mBin eqD (mCall lenD (aCons (mApp f_once_each (aCons (mVar 1) (aCons (mVar 2) (aCons (mVar 6) (aNil))))) (aNil))) (mBin iSub (mCall lenD (aCons (mVar 6) (aNil))) (mCall lenD (aCons (mVar 9) (aNil)))))))
def m_law_holds_11 : MS := b_law_holds_11
def b_law_holds_10 : MS := mSet 9 (mCall tupleD (aCons (mComp (iSeq (mVar 6)) (gN 8) (mAndT (mB (mBin gtD (mVar 2) (mC (.int 0)))) (mB (mChain leD ltD (mVar 1) (mVar 8) (mBin addD (mVar 1) (mVar 2))))) (mVar 8) [8]) (aNil)))
def m_law_holds_10 : MS := mSeq b_law_holds_10 m_law_holds_11
def b_law_holds_9 : MS := mFor (iSeq (mVar 6)) (gN 8) (mSet 7 (mBin addD (mVar 7) (mComp (iR1 (aCons (mC (.int 500)) (aNil))) (gN 11) (mB (mBin eqD (mIf (mB (mBin ltD (mVar 11) (mVar 1))) (mVar 11) (mBin addD (mVar 11) (mVar 2))) (mVar 8))) (mVar 11) [11])))
def m_law_holds_9 : MS := mSeq b_law_holds_9 m_law_holds_10
def b_law_holds_8 : MS := mSet 7 (mLst (aNil))
def m_law_holds_8 : MS := mSeq b_law_holds_8 m_law_holds_9
def b_law_holds_7 : MS := mSet 6 (mCall tupleD (aCons (mSS (mComp (iR1 (aCons (mC (.int 6)) (aNil))) (gN 10) (mYes) (mAppIO [true, false] f_law_next (aCons (mVar 0) (aCons (mC (.int 400)) (aNil)))) [10])) (aNil)))
def m_law_holds_7 : MS := mSeq b_law_holds_7 m_law_holds_8
def b_law_holds_6 : MS := mIfS (mOrT (mAndT (mB (mBin gtD (mVar 2) (mC (.int 0)))) (mOrT (mB (mBin neD (mApp f_skipped (aCons (mVar 1) (aCons (mVar 2) (aNil)))) (mTup (aCons (mVar 1) (aCons (mBin addD (mVar 1) (mVar 2)) (aNil)))))) (mB (mNotN (mApp f_doubled (aCons (mVar 1) (aCons (mVar 2) (aNil)))))))) (mAndT (mB (mBin ltD (mVar 2) (mC (.int 0)))) (mOrT (mB (mBin neD (mApp f_doubled (aCons (mVar 1) (aCons (mVar 2) (aNil)))) (mTup (aCons (mBin addD (mVar 1) (mVar 2)) (aCons (mVar 1) (aNil)))))) (mB (mNotN (mApp f_skipped (aCons (mVar 1) (aCons (mVar 2) (aNil))))))))) (mRet (mC (.bool false))) (mNx)
def m_law_holds_6 : MS := mSeq b_law_holds_6 m_law_holds_7
def b_law_holds_5 : MS := mIfS (mB (mBin neD (mApp f_minutes_shown (aCons (mVar 1) (aCons (mVar 2) (aCons (mVar 4) (aNil))))) (mVar 5))) (mRet (mC (.bool false))) (mNx)
def m_law_holds_5 : MS := mSeq b_law_holds_5 m_law_holds_6
def b_law_holds_4 : MS := mSet 5 (mCall tupleD (aCons (mComp (iR1 (aCons (mC (.int 500)) (aNil))) (gN 8) (mB (mBin eqD (mIf (mB (mBin ltD (mVar 8) (mVar 1))) (mVar 8) (mBin addD (mVar 8) (mVar 2))) (mVar 4))) (mVar 8) [8]) (aNil)))
def m_law_holds_4 : MS := mSeq b_law_holds_4 m_law_holds_5
def b_law_holds_3 : MS := mSet 4 (mAppIO [true, false] f_law_next (aCons (mVar 0) (aCons (mC (.int 400)) (aNil))))
def m_law_holds_3 : MS := mSeq b_law_holds_3 m_law_holds_4
def b_law_holds_2 : MS := mIfS (mB (mBin neD (mApp f_shown_clock (aCons (mVar 1) (aCons (mVar 2) (aCons (mVar 3) (aNil))))) (mIf (mB (mBin ltD (mVar 3) (mVar 1))) (mVar 3) (mBin addD (mVar 3) (mVar 2))))) (mRet (mC (.bool false))) (mNx)
def m_law_holds_2 : MS := mSeq b_law_holds_2 m_law_holds_3
def b_law_holds_1 : MS := mSet 3 (mAppIO [true, false] f_law_next (aCons (mVar 0) (aCons (mC (.int 400)) (aNil))))
def m_law_holds_1 : MS := mSeq b_law_holds_1 m_law_holds_2
def b_law_holds_0 : MS := mAsg (mTup (aCons (mBin addD (mC (.int 60)) (mAppIO [true, false] f_law_next (aCons (mVar 0) (aCons (mC (.int 200)) (aNil))))) (aCons (mBin iMul (mBin addD (mC (.int 1)) (mAppIO [true, false] f_law_next (aCons (mVar 0) (aCons (mC (.int 60)) (aNil))))) (mIf (mB (mBin eqD (mAppIO [true, false] f_law_next (aCons (mVar 0) (aCons (mC (.int 2)) (aNil)))) (mC (.int 0)))) (mC (.int 1)) (mUn iNeg (mC (.int 1))))) (aNil)))) (gT 2 (gsC (gN 1) (gsC (gN 2) (gsN))))
def m_law_holds_0 : MS := mSeq b_law_holds_0 m_law_holds_1
def m_law_holds : MS := m_law_holds_0
def f_law_holds : MFio := runIO 12 [true] m_law_holds
def m_law : MS := m_lawG f_law_holds
def f_law : MF := runF 3 m_law
theorem f_law_eq : f_law = f_lawG f_law_holds := rfl
end Nb

namespace Nb
open PySem PySem.Spec PyProof.Rows L2
def topS (i : Nat) : Stmt := PySem.Challenge.pw_nightbus_k15_whole_known_clocks_put_on_a.main.body.getD i (.Pass ⟨0, 0, 0, 0⟩)
abbrev s_shown_clock : Stmt := topS 1
theorem sc_shown_clock : FnScope ["at", "by", "minute"] ["at", "by", "minute"] (defScope s_shown_clock) := ⟨rfl, rfl, rfl, by decide +kernel, rfl, by decide +kernel, by decide +kernel⟩
abbrev s_minutes_shown : Stmt := topS 2
theorem sc_minutes_shown : FnScope ["at", "by", "shown", "found"] ["at", "by", "shown"] (defScope s_minutes_shown) := ⟨rfl, rfl, rfl, by decide +kernel, rfl, by decide +kernel, by decide +kernel⟩
abbrev s_skipped : Stmt := topS 3
theorem sc_skipped : FnScope ["at", "by"] ["at", "by"] (defScope s_skipped) := ⟨rfl, rfl, rfl, by decide +kernel, rfl, by decide +kernel, by decide +kernel⟩
abbrev s_doubled : Stmt := topS 4
theorem sc_doubled : FnScope ["at", "by"] ["at", "by"] (defScope s_doubled) := ⟨rfl, rfl, rfl, by decide +kernel, rfl, by decide +kernel, by decide +kernel⟩
abbrev s_kept_by_clock : Stmt := topS 5
theorem sc_kept_by_clock : FnScope ["at", "by", "shown", "own", "minute"] ["at", "by", "shown"] (defScope s_kept_by_clock) := ⟨rfl, rfl, rfl, by decide +kernel, rfl, by decide +kernel, by decide +kernel⟩
abbrev s_lost_trips : Stmt := topS 6
theorem sc_lost_trips : FnScope ["at", "by", "shown", "own"] ["at", "by", "shown"] (defScope s_lost_trips) := ⟨rfl, rfl, rfl, by decide +kernel, rfl, by decide +kernel, by decide +kernel⟩
abbrev s_once_each : Stmt := topS 7
theorem sc_once_each : FnScope ["at", "by", "shown", "rows", "own", "row"] ["at", "by", "shown"] (defScope s_once_each) := ⟨rfl, rfl, rfl, by decide +kernel, rfl, by decide +kernel, by decide +kernel⟩
abbrev s_law_draws : Stmt := topS 9
theorem sc_law_draws : FnScope ["script", "many", "draws", "mixed", "k", "cell", "rest", "turn"] ["script", "many"] (defScope s_law_draws) := ⟨rfl, rfl, rfl, by decide +kernel, rfl, by decide +kernel, by decide +kernel⟩
abbrev s_law_next : Stmt := topS 10
theorem sc_law_next : FnScope ["w", "many"] ["w", "many"] (defScope s_law_next) := ⟨rfl, rfl, rfl, by decide +kernel, rfl, by decide +kernel, by decide +kernel⟩
abbrev s_law_holds : Stmt := topS 11
theorem sc_law_holds : FnScope ["w", "at", "by", "minute", "shown", "due", "trips", "kept", "own", "lost", "k", "m"] ["w"] (defScope s_law_holds) := ⟨rfl, rfl, rfl, by decide +kernel, rfl, by decide +kernel, by decide +kernel⟩
abbrev s_law : Stmt := topS 12
theorem sc_law : FnScope ["script", "w", "turn"] ["script"] (defScope s_law) := ⟨rfl, rfl, rfl, by decide +kernel, rfl, by decide +kernel, by decide +kernel⟩
theorem ok_shown_clock {P : Program} {w : World} {K : PySem.W.Frag} {mg : PySem.Str → Option Value} {base : Heap} {f : Addr} {fd : FuncData} (F : Fun K "shown_clock" "shown_clock" s_shown_clock f fd) (hm : mg "shown_clock" = some (.ref f)) :
    FnD P w K mg base 1 "shown_clock" 3 f_shown_clock := by
  refine fnD_of (N := ["at", "by", "minute"]) (ps := ["at", "by", "minute"]) (m := m_shown_clock) F sc_shown_clock (F.binds (ps := ["at", "by", "minute"]) fun _ _ _ _ _ _ us hl => match us, hl with | [_, _, _], _ => rfl) hm fun cdv A outer s H hr hu65 => ?_
  have hu : A.units + 64 < cLine := by omega
  have hN := sc_shown_clock.nd
  exact sb_one (ss_ret (se_if ((sc_lt (se_name 2) (se_name 0)).tst) (se_name 2) (se_add (se_name 2) (se_name 1))))

theorem ok_minutes_shown {P : Program} {w : World} {K : PySem.W.Frag} {mg : PySem.Str → Option Value} {base : Heap} {f : Addr} {fd : FuncData} (F : Fun K "minutes_shown" "minutes_shown" s_minutes_shown f fd) (hm : mg "minutes_shown" = some (.ref f)) (z_tuple : mg "tuple" = none) :
    FnD P w K mg base 1 "minutes_shown" 3 f_minutes_shown := by
  refine fnD_of (N := ["at", "by", "shown", "found"]) (ps := ["at", "by", "shown"]) (m := m_minutes_shown) F sc_minutes_shown (F.binds (ps := ["at", "by", "shown"]) fun _ _ _ _ _ _ us hl => match us, hl with | [_, _, _], _ => rfl) hm fun cdv A outer s H hr hu65 => ?_
  have hu : A.units + 64 < cLine := by omega
  have hN := sc_minutes_shown.nd
  exact sb_cons (ss_set 3 (se_if ((sc_lt (se_name 2) (se_name 0)).tst) (se_lst (sa_cons (se_name 2) (sa_nil))) (se_lst (sa_nil))) hN) (sb_one (ss_ret (se_callTy (fun _ => call_tuple_of) cv_tuple z_tuple (sa_cons (se_add (se_name 3) (se_if ((sc_ge (se_sub (se_name 2) (se_name 1)) (se_name 0)).tst) (se_lst (sa_cons (se_sub (se_name 2) (se_name 1)) (sa_nil))) (se_lst (sa_nil)))) (sa_nil)))))

theorem ok_skipped {P : Program} {w : World} {K : PySem.W.Frag} {mg : PySem.Str → Option Value} {base : Heap} {f : Addr} {fd : FuncData} (F : Fun K "skipped" "skipped" s_skipped f fd) (hm : mg "skipped" = some (.ref f)) :
    FnD P w K mg base 1 "skipped" 2 f_skipped := by
  refine fnD_of (N := ["at", "by"]) (ps := ["at", "by"]) (m := m_skipped) F sc_skipped (F.binds (ps := ["at", "by"]) fun _ _ _ _ _ _ us hl => match us, hl with | [_, _], _ => rfl) hm fun cdv A outer s H hr hu65 => ?_
  have hu : A.units + 64 < cLine := by omega
  have hN := sc_skipped.nd
  exact sb_one (ss_ret (se_if ((sc_gt (se_name 1) (se_int)).tst) (se_tup (sa_cons (se_name 0) (sa_cons (se_add (se_name 0) (se_name 1)) (sa_nil)))) (se_non)))

theorem ok_doubled {P : Program} {w : World} {K : PySem.W.Frag} {mg : PySem.Str → Option Value} {base : Heap} {f : Addr} {fd : FuncData} (F : Fun K "doubled" "doubled" s_doubled f fd) (hm : mg "doubled" = some (.ref f)) :
    FnD P w K mg base 1 "doubled" 2 f_doubled := by
  refine fnD_of (N := ["at", "by"]) (ps := ["at", "by"]) (m := m_doubled) F sc_doubled (F.binds (ps := ["at", "by"]) fun _ _ _ _ _ _ us hl => match us, hl with | [_, _], _ => rfl) hm fun cdv A outer s H hr hu65 => ?_
  have hu : A.units + 64 < cLine := by omega
  have hN := sc_doubled.nd
  exact sb_one (ss_ret (se_if ((sc_lt (se_name 1) (se_int)).tst) (se_tup (sa_cons (se_add (se_name 0) (se_name 1)) (sa_cons (se_name 0) (sa_nil)))) (se_non)))

theorem ok_kept_by_clock {P : Program} {w : World} {K : PySem.W.Frag} {mg : PySem.Str → Option Value} {base : Heap} {f : Addr} {fd : FuncData} (F : Fun K "kept_by_clock" "kept_by_clock" s_kept_by_clock f fd) (hm : mg "kept_by_clock" = some (.ref f)) (G_minutes_shown : FnD P w K mg base 1 "minutes_shown" 3 f_minutes_shown) (z_set : mg "set" = none) (z_sorted : mg "sorted" = none) (z_tuple : mg "tuple" = none) :
    FnD P w K mg base 2 "kept_by_clock" 3 f_kept_by_clock := by
  refine fnD_of (N := ["at", "by", "shown", "own", "minute"]) (ps := ["at", "by", "shown"]) (m := m_kept_by_clock) F sc_kept_by_clock (F.binds (ps := ["at", "by", "shown"]) fun _ _ _ _ _ _ us hl => match us, hl with | [_, _, _], _ => rfl) hm fun cdv A outer s H hr hu65 => ?_
  have hu : A.units + 64 < cLine := by omega
  have hN := sc_kept_by_clock.nd
  have hk_minutes_shown : 1 ≤ 1 := by decide
  exact sb_one (ss_ret (se_callTy (fun _ => call_tuple_of) cv_tuple z_tuple (sa_cons (se_sortedSet z_sorted z_set (se_comp2 (own := [("own", 3), ("minute", 4)]) [4] hN (SI_seq (se_name 2)) (sg_name 3 hN) (sts_nil) (SI_seq (se_app (G_minutes_shown.mono hk_minutes_shown) hr (sa_cons (se_name 0) (sa_cons (se_name 1) (sa_cons (se_name 3) (sa_nil)))) (hl := aCons_len (aCons_len (aCons_len (aNil_len)))))) (sg_name 4 hN) (sts_nil) (se_name 4) (by rfl) (hsc := fun _ => rfl))) (sa_nil))))

theorem ok_lost_trips {P : Program} {w : World} {K : PySem.W.Frag} {mg : PySem.Str → Option Value} {base : Heap} {f : Addr} {fd : FuncData} (F : Fun K "lost_trips" "lost_trips" s_lost_trips f fd) (hm : mg "lost_trips" = some (.ref f)) (G_minutes_shown : FnD P w K mg base 1 "minutes_shown" 3 f_minutes_shown) (z_tuple : mg "tuple" = none) :
    FnD P w K mg base 2 "lost_trips" 3 f_lost_trips := by
  refine fnD_of (N := ["at", "by", "shown", "own"]) (ps := ["at", "by", "shown"]) (m := m_lost_trips) F sc_lost_trips (F.binds (ps := ["at", "by", "shown"]) fun _ _ _ _ _ _ us hl => match us, hl with | [_, _, _], _ => rfl) hm fun cdv A outer s H hr hu65 => ?_
  have hu : A.units + 64 < cLine := by omega
  have hN := sc_lost_trips.nd
  have hk_minutes_shown : 1 ≤ 1 := by decide
  exact sb_one (ss_ret (se_callTy (fun _ => call_tuple_of) cv_tuple z_tuple (sa_cons (se_comp (own := [("own", 3)]) hN (SI_seq (se_name 2)) (sg_name 3 hN) (sts_one ((sc_eq (se_app (G_minutes_shown.mono hk_minutes_shown) hr (sa_cons (se_name 0) (sa_cons (se_name 1) (sa_cons (se_name 3) (sa_nil)))) (hl := aCons_len (aCons_len (aCons_len (aNil_len))))) (se_tup (sa_nil)) hu).tst)) (se_name 3) (by rfl) (hsc := fun _ => rfl)) (sa_nil))))

theorem ok_once_each {P : Program} {w : World} {K : PySem.W.Frag} {mg : PySem.Str → Option Value} {base : Heap} {f : Addr} {fd : FuncData} (F : Fun K "once_each" "once_each" s_once_each f fd) (hm : mg "once_each" = some (.ref f)) (G_minutes_shown : FnD P w K mg base 1 "minutes_shown" 3 f_minutes_shown) (z_set : mg "set" = none) (z_sorted : mg "sorted" = none) (z_tuple : mg "tuple" = none) :
    FnD P w K mg base 2 "once_each" 3 f_once_each := by
  refine fnD_of (N := ["at", "by", "shown", "rows", "own", "row"]) (ps := ["at", "by", "shown"]) (m := m_once_each) F sc_once_each (F.binds (ps := ["at", "by", "shown"]) fun _ _ _ _ _ _ us hl => match us, hl with | [_, _, _], _ => rfl) hm fun cdv A outer s H hr hu65 => ?_
  have hu : A.units + 64 < cLine := by omega
  have hN := sc_once_each.nd
  have hk_minutes_shown : 1 ≤ 1 := by decide
  exact sb_cons (ss_setComp 3 (own := [("own", 4)]) hN (SI_seq (se_name 2)) (sg_name 4 hN) (sts_nil) (se_app (G_minutes_shown.mono hk_minutes_shown) hr (sa_cons (se_name 0) (sa_cons (se_name 1) (sa_cons (se_name 4) (sa_nil)))) (hl := aCons_len (aCons_len (aCons_len (aNil_len))))) (by rfl) (hsc := fun _ => rfl)) (sb_one (ss_ret (se_callTy (fun _ => call_tuple_of) cv_tuple z_tuple (sa_cons (se_sortedSet z_sorted z_set (se_comp (own := [("row", 5)]) hN (SI_seq (se_name 3)) (sg_name 5 hN) (sts_one ((sc_ne (se_name 5) (se_tup (sa_nil)) hu).tst)) (se_ix hu (se_name 5) (se_int)) (by rfl) (hsc := fun _ => rfl))) (sa_nil)))))

theorem ok_law_draws {P : Program} {w : World} {K : PySem.W.Frag} {mg : PySem.Str → Option Value} {base : Heap} {f : Addr} {fd : FuncData} (F : Fun K "_law_draws" "_law_draws" s_law_draws f fd) (hm : mg "_law_draws" = some (.ref f)) (z_abs : mg "abs" = none) (z_int : mg "int" = none) (z_len : mg "len" = none) (z_range : mg "range" = none) :
    FnD P w K mg base 1 "_law_draws" 2 f_law_draws := by
  refine fnD_of (N := ["script", "many", "draws", "mixed", "k", "cell", "rest", "turn"]) (ps := ["script", "many"]) (m := m_law_draws) F sc_law_draws (F.binds (ps := ["script", "many"]) fun _ _ _ _ _ _ us hl => match us, hl with | [_, _], _ => rfl) hm fun cdv A outer s H hr hu65 => ?_
  have hu : A.units + 64 < cLine := by omega
  have hN := sc_law_draws.nd
  exact sb_cons (ss_set 2 (se_lst (sa_nil)) hN) (sb_cons (ss_set 3 (se_int) hN) (sb_cons (ss_for (fun _ => PassesOwn.never) (SI_range1 z_range (sa_cons (se_callB (fun _ => call_len) cv_len z_len (sa_cons (se_name 0) (sa_nil))) (sa_nil))) (sg_name 4 hN) (sb_cons (ss_set 5 (se_callB (fun _ => call_abs) cv_abs z_abs (sa_cons (se_callTy (fun _ => call_int1.or call_int_str) cv_int2 z_int (sa_cons (se_ix hu (se_name 0) (se_name 4)) (sa_nil))) (sa_nil))) hN) (sb_cons (ss_set 3 (se_mod (se_callTy (fun _ => call_int1.or call_int_str) cv_int2 z_int (sa_cons (se_add (se_add (se_mul (se_name 3) (se_int)) (se_mod (se_name 5) (se_int))) (se_name 4)) (sa_nil))) (se_int)) hN) (sb_cons (ss_set 6 (se_int) hN) (sb_cons (ss_if ((sc_ge (se_name 5) (se_pow (se_int) (se_int))).tst) (sb_one (ss_set 6 (se_name 5) hN)) (sb_cons (ss_expr (se_mut (i := 2) PySem.F.slot_list_append PySem.F.type_list_append (fun _ => mt_append) mv_append (sa_cons (se_mod (se_callTy (fun _ => call_int1.or call_int_str) cv_int2 z_int (sa_cons (se_name 5) (sa_nil))) (se_int)) (sa_nil)) (fun _ _ _ pa px hm => pe_bm PySem.F.plainAttrs_list PySem.F.slot_list_append PySem.F.type_list_append hm px pa))) (sb_one (ss_expr (se_mut (i := 2) PySem.F.slot_list_append PySem.F.type_list_append (fun _ => mt_append) mv_append (sa_cons (se_mod (se_mod (se_callTy (fun _ => call_int1.or call_int_str) cv_int2 z_int (sa_cons (se_add (se_mul (se_name 3) (se_int)) (se_int)) (sa_nil))) (se_int)) (se_int)) (sa_nil)) (fun _ _ _ pa px hm => pe_bm PySem.F.plainAttrs_list PySem.F.slot_list_append PySem.F.type_list_append hm px pa)))))) (sb_one (ss_for (fun _ => PassesOwn.never) (SI_range1 z_range (sa_cons (se_int) (sa_nil))) (sg_name 7 hN) (sb_one (ss_if ((sc_gt (se_name 6) (se_int)).tst) (sb_cons (ss_expr (se_mut (i := 2) PySem.F.slot_list_append PySem.F.type_list_append (fun _ => mt_append) mv_append (sa_cons (se_mod (se_callTy (fun _ => call_int1.or call_int_str) cv_int2 z_int (sa_cons (se_name 6) (sa_nil))) (se_int)) (sa_nil)) (fun _ _ _ pa px hm => pe_bm PySem.F.plainAttrs_list PySem.F.slot_list_append PySem.F.type_list_append hm px pa))) (sb_one (ss_set 6 (se_fdiv (se_name 6) (se_int)) hN))) (sb_nil)))))))))) (sb_cons (ss_for (fun _ => PassesOwn.never) (SI_range1 z_range (sa_cons (se_name 1) (sa_nil))) (sg_name 4 hN) (sb_cons (ss_set 3 (se_mod (se_callTy (fun _ => call_int1.or call_int_str) cv_int2 z_int (sa_cons (se_add (se_add (se_mul (se_name 3) (se_int)) (se_name 4)) (se_int)) (sa_nil))) (se_int)) hN) (sb_one (ss_expr (se_mut (i := 2) PySem.F.slot_list_append PySem.F.type_list_append (fun _ => mt_append) mv_append (sa_cons (se_mod (se_callTy (fun _ => call_int1.or call_int_str) cv_int2 z_int (sa_cons (se_name 3) (sa_nil))) (se_int)) (sa_nil)) (fun _ _ _ pa px hm => pe_bm PySem.F.plainAttrs_list PySem.F.slot_list_append PySem.F.type_list_append hm px pa)))))) (sb_one (ss_ret (se_slice (se_name 2) so_none (so_some (se_name 1))))))))

theorem ok_law_next {P : Program} {w : World} {K : PySem.W.Frag} {mg : PySem.Str → Option Value} {base : Heap} {f : Addr} {fd : FuncData} (F : Fun K "_law_next" "_law_next" s_law_next f fd) (hm : mg "_law_next" = some (.ref f)) (z_int : mg "int" = none) (z_len : mg "len" = none) :
    FnIO P w K mg base 1 "_law_next" ["w", "many"] [true, false] f_law_next := by
  refine fnIO_of (io := [true, false]) (N := ["w", "many"]) (ps := ["w", "many"]) (m := m_law_next) F sc_law_next (F.binds (ps := ["w", "many"]) fun _ _ _ _ _ _ us hl => match us, hl with | [_, _], _ => rfl) hm rfl fun cdv A outer s H hr hu65 => ?_
  have hu : A.units + 64 < cLine := by omega
  have hN := sc_law_next.nd
  exact sb_cons (ss_putAug 0 hu (se_str) (se_int) (fun _ => in_add) ov_addI) (sb_cons (ss_if ((sc_gt (se_ix hu (se_name 0) (se_str)) (se_callB (fun _ => call_len) cv_len z_len (sa_cons (se_ix hu (se_name 0) (se_str)) (sa_nil)))).tst) (sb_one (ss_ret (se_int))) (sb_nil)) (sb_one (ss_ret (se_mod (se_callTy (fun _ => call_int1.or call_int_str) cv_int2 z_int (sa_cons (se_ix hu (se_ix hu (se_name 0) (se_str)) (se_sub (se_ix hu (se_name 0) (se_str)) (se_int))) (sa_nil))) (se_name 1)))))

theorem ok_law_holds {P : Program} {w : World} {K : PySem.W.Frag} {mg : PySem.Str → Option Value} {base : Heap} {f : Addr} {fd : FuncData} (F : Fun K "_law_holds" "_law_holds" s_law_holds f fd) (hm : mg "_law_holds" = some (.ref f)) (G__law_next : FnIO P w K mg base 1 "_law_next" ["w", "many"] [true, false] f_law_next) (G_doubled : FnD P w K mg base 1 "doubled" 2 f_doubled) (G_kept_by_clock : FnD P w K mg base 2 "kept_by_clock" 3 f_kept_by_clock) (G_lost_trips : FnD P w K mg base 2 "lost_trips" 3 f_lost_trips) (G_minutes_shown : FnD P w K mg base 1 "minutes_shown" 3 f_minutes_shown) (G_once_each : FnD P w K mg base 2 "once_each" 3 f_once_each) (G_shown_clock : FnD P w K mg base 1 "shown_clock" 3 f_shown_clock) (G_skipped : FnD P w K mg base 1 "skipped" 2 f_skipped) (z_len : mg "len" = none) (z_range : mg "range" = none) (z_set : mg "set" = none) (z_sorted : mg "sorted" = none) (z_tuple : mg "tuple" = none) :
    FnIO P w K mg base 3 "_law_holds" ["w", "at", "by", "minute", "shown", "due", "trips", "kept", "own", "lost", "k", "m"] [true] f_law_holds := by
  refine fnIO_of (io := [true]) (N := ["w", "at", "by", "minute", "shown", "due", "trips", "kept", "own", "lost", "k", "m"]) (ps := ["w"]) (m := m_law_holds) F sc_law_holds (F.binds (ps := ["w"]) fun _ _ _ _ _ _ us hl => match us, hl with | [_], _ => rfl) hm rfl fun cdv A outer s H hr hu65 => ?_
  have hu : A.units + 64 < cLine := by omega
  have hN := sc_law_holds.nd
  have hk__law_next : 1 ≤ 2 := by decide
  have hk_doubled : 1 ≤ 2 := by decide
  have hk_kept_by_clock : 2 ≤ 2 := by decide
  have hk_lost_trips : 2 ≤ 2 := by decide
  have hk_minutes_shown : 1 ≤ 2 := by decide
  have hk_once_each : 2 ≤ 2 := by decide
  have hk_shown_clock : 1 ≤ 2 := by decide
  have hk_skipped : 1 ≤ 2 := by decide
  exact sb_cons (ss_asg (se_tup (sa_cons (se_add (se_int) (se_appIO (G__law_next.mono hk__law_next) hr (sa_cons (se_name 0) (sa_cons (se_int) (sa_nil))))) (sa_cons (se_mul (se_add (se_int) (se_appIO (G__law_next.mono hk__law_next) hr (sa_cons (se_name 0) (sa_cons (se_int) (sa_nil))))) (se_if ((sc_eq (se_appIO (G__law_next.mono hk__law_next) hr (sa_cons (se_name 0) (sa_cons (se_int) (sa_nil)))) (se_int) hu).tst) (se_int) (se_neg (se_int)))) (sa_nil)))) (sg_tup (sgs_cons (sg_name 1 hN) (sgs_cons (sg_name 2 hN) (sgs_nil))))) (sb_cons (ss_set 3 (se_appIO (G__law_next.mono hk__law_next) hr (sa_cons (se_name 0) (sa_cons (se_int) (sa_nil)))) hN) (sb_cons (ss_if ((sc_ne (se_app (G_shown_clock.mono hk_shown_clock) hr (sa_cons (se_name 1) (sa_cons (se_name 2) (sa_cons (se_name 3) (sa_nil)))) (hl := aCons_len (aCons_len (aCons_len (aNil_len))))) (se_if ((sc_lt (se_name 3) (se_name 1)).tst) (se_name 3) (se_add (se_name 3) (se_name 2))) hu).tst) (sb_one (ss_ret (se_bl))) (sb_nil)) (sb_cons (ss_set 4 (se_appIO (G__law_next.mono hk__law_next) hr (sa_cons (se_name 0) (sa_cons (se_int) (sa_nil)))) hN) (sb_cons (ss_set 5 (se_callTy (fun _ => call_tuple_of) cv_tuple z_tuple (sa_cons (se_comp (own := [("own", 8)]) hN (SI_range1 z_range (sa_cons (se_int) (sa_nil))) (sg_name 8 hN) (sts_one ((sc_eq (se_if ((sc_lt (se_name 8) (se_name 1)).tst) (se_name 8) (se_add (se_name 8) (se_name 2))) (se_name 4) hu).tst)) (se_name 8) (by rfl) (hsc := fun _ => rfl)) (sa_nil))) hN) (sb_cons (ss_if ((sc_ne (se_app (G_minutes_shown.mono hk_minutes_shown) hr (sa_cons (se_name 1) (sa_cons (se_name 2) (sa_cons (se_name 4) (sa_nil)))) (hl := aCons_len (aCons_len (aCons_len (aNil_len))))) (se_name 5) hu).tst) (sb_one (ss_ret (se_bl))) (sb_nil)) (sb_cons (ss_if ((sw_or ((sw_and ((sc_gt (se_name 2) (se_int)).tst) (sw_and1 ((sw_or ((sc_ne (se_app (G_skipped.mono hk_skipped) hr (sa_cons (se_name 1) (sa_cons (se_name 2) (sa_nil))) (hl := aCons_len (aCons_len (aNil_len)))) (se_tup (sa_cons (se_name 1) (sa_cons (se_add (se_name 1) (se_name 2)) (sa_nil)))) hu).tst) (sw_or1 ((sc_notN (se_app (G_doubled.mono hk_doubled) hr (sa_cons (se_name 1) (sa_cons (se_name 2) (sa_nil))) (hl := aCons_len (aCons_len (aNil_len))))).tst))).tst))).tst) (sw_or1 ((sw_and ((sc_lt (se_name 2) (se_int)).tst) (sw_and1 ((sw_or ((sc_ne (se_app (G_doubled.mono hk_doubled) hr (sa_cons (se_name 1) (sa_cons (se_name 2) (sa_nil))) (hl := aCons_len (aCons_len (aNil_len)))) (se_tup (sa_cons (se_add (se_name 1) (se_name 2)) (sa_cons (se_name 1) (sa_nil)))) hu).tst) (sw_or1 ((sc_notN (se_app (G_skipped.mono hk_skipped) hr (sa_cons (se_name 1) (sa_cons (se_name 2) (sa_nil))) (hl := aCons_len (aCons_len (aNil_len))))).tst))).tst))).tst))).tst) (sb_one (ss_ret (se_bl))) (sb_nil)) (sb_cons (ss_set 6 (se_callTy (fun _ => call_tuple_of) cv_tuple z_tuple (sa_cons (se_sortedSet z_sorted z_set (se_comp (own := [("k", 10)]) hN (SI_range1 z_range (sa_cons (se_int) (sa_nil))) (sg_name 10 hN) (sts_nil) (se_appIO (G__law_next.mono hk__law_next) hr (sa_cons (se_name 0) (sa_cons (se_int) (sa_nil)))) (by rfl) (hsc := fun _ => rfl))) (sa_nil))) hN) (sb_cons (ss_set 7 (se_lst (sa_nil)) hN) (sb_cons (ss_for (fun _ => PassesOwn.never) (SI_seq (se_name 6)) (sg_name 8 hN) (sb_one (ss_set 7 (se_add (se_name 7) (se_comp (own := [("m", 11)]) hN (SI_range1 z_range (sa_cons (se_int) (sa_nil))) (sg_name 11 hN) (sts_one ((sc_eq (se_if ((sc_lt (se_name 11) (se_name 1)).tst) (se_name 11) (se_add (se_name 11) (se_name 2))) (se_name 8) hu).tst)) (se_name 11) (by rfl) (hsc := fun _ => rfl))) hN))) (sb_cons (ss_set 9 (se_callTy (fun _ => call_tuple_of) cv_tuple z_tuple (sa_cons (se_comp (own := [("own", 8)]) hN (SI_seq (se_name 6)) (sg_name 8 hN) (sts_one ((sw_and ((sc_gt (se_name 2) (se_int)).tst) (sw_and1 ((sc_chain (fun _ => op_le.or op_le_str) (ov_ord fun d e b h => by unfold leD at h; split at h <;> cases h <;> first | exact .inl ⟨_, _, rfl, rfl, rfl⟩ | exact .inr ⟨_, _, rfl, rfl, rfl⟩) (fun _ => op_lt.or op_lt_str) (ov_ord fun d e b h => by unfold ltD at h; split at h <;> cases h <;> first | exact .inl ⟨_, _, rfl, rfl, rfl⟩ | exact .inr ⟨_, _, rfl, rfl, rfl⟩) (se_name 1) (se_name 8) (se_add (se_name 1) (se_name 2))).tst))).tst)) (se_name 8) (by rfl) (hsc := fun _ => rfl)) (sa_nil))) hN) (sb_one (ss_ret (se_and ((sc_eq (se_app (G_kept_by_clock.mono hk_kept_by_clock) hr (sa_cons (se_name 1) (sa_cons (se_name 2) (sa_cons (se_name 6) (sa_nil)))) (hl := aCons_len (aCons_len (aCons_len (aNil_len))))) (se_callTy (fun _ => call_tuple_of) cv_tuple z_tuple (sa_cons (se_callB (fun _ => cr_sorted) cv_sorted z_sorted (sa_cons (se_name 7) (sa_nil))) (sa_nil))) hu).ex) (se_and ((sc_eq (se_app (G_lost_trips.mono hk_lost_trips) hr (sa_cons (se_name 1) (sa_cons (se_name 2) (sa_cons (se_name 6) (sa_nil)))) (hl := aCons_len (aCons_len (aCons_len (aNil_len))))) (se_name 9) hu).ex) (se_one ((sc_eq (se_callB (fun _ => call_len) cv_len z_len (sa_cons (se_app (G_once_each.mono hk_once_each) hr (sa_cons (se_name 1) (sa_cons (se_name 2) (sa_cons (se_name 6) (sa_nil)))) (hl := aCons_len (aCons_len (aCons_len (aNil_len))))) (sa_nil))) (se_sub (se_callB (fun _ => call_len) cv_len z_len (sa_cons (se_name 6) (sa_nil))) (se_callB (fun _ => call_len) cv_len z_len (sa_cons (se_name 9) (sa_nil)))) hu).ex))))))))))))))))

theorem ok_law {P : Program} {w : World} {K : PySem.W.Frag} {mg : PySem.Str → Option Value} {base : Heap} {f : Addr} {fd : FuncData} (F : Fun K "law" "law" s_law f fd) (hm : mg "law" = some (.ref f)) (G__law_draws : FnD P w K mg base 1 "_law_draws" 2 f_law_draws) (G__law_holds : FnIO P w K mg base 3 "_law_holds" ["w", "at", "by", "minute", "shown", "due", "trips", "kept", "own", "lost", "k", "m"] [true] f_law_holds) (z_range : mg "range" = none) :
    FnOk P w K mg base CX0 4 f fd ["script"] (Prom K 1 f_law) := by
  refine fnOk_of (N := ["script", "w", "turn"]) (ps := ["script"]) (m := m_law) F sc_law (F.binds (ps := ["script"]) fun _ _ _ _ _ _ us hl => match us, hl with | [_], _ => rfl) hm fun cdv A outer s H hr hu65 => ?_
  have hu : A.units + 64 < cLine := by omega
  have hN := sc_law.nd
  have hk__law_draws : 1 ≤ 3 := by decide
  have hk__law_holds : 3 ≤ 3 := by decide
  exact sb_cons (ss_set 1 (se_dct (sp_cons (se_str) (se_app (G__law_draws.mono hk__law_draws) hr (sa_cons (se_name 0) (sa_cons (se_int) (sa_nil))) (hl := aCons_len (aCons_len (aNil_len)))) (sp_cons (se_str) (se_int) (sp_nil)))) hN) (sb_cons (ss_for (fun _ => PassesOwn.never) (SI_range1 z_range (sa_cons (se_int) (sa_nil))) (sg_name 2 hN) (sb_one (ss_if (st_not (st_tru (se_appIO (G__law_holds.mono hk__law_holds) hr (sa_cons (se_name 1) (sa_nil))))) (sb_one (ss_ret (se_bl))) (sb_nil)))) (sb_one (ss_ret (se_bl))))

end Nb

namespace Nb
open PySem PySem.Spec PyProof.Rows L2
theorem canI : ∀ xs : List Int, PyData.canLayAll0 (xs.map PyData.int) = true
  | [] => rfl
  | x :: xs => by
    show (PyData.canLay0 (.int x) && PyData.canLayAll0 (xs.map PyData.int)) = true
    rw [canI xs]
    rfl
theorem depI : ∀ xs : List Int, PyData.depthAll (xs.map PyData.int) = 0
  | [] => rfl
  | x :: xs => by
    show max 0 (PyData.depthAll (xs.map PyData.int)) = 0
    rw [depI xs]
    rfl
theorem eqvI : ∀ xs ys : List Int, PyData.eqvAll (xs.map PyData.int) (ys.map PyData.int) = (xs == ys)
  | [], [] => rfl
  | [], _ :: _ => rfl
  | _ :: _, [] => rfl
  | x :: xs, y :: ys => by
    show ((x == y) && PyData.eqvAll (xs.map PyData.int) (ys.map PyData.int)) = _
    rw [eqvI xs ys]
    rfl
theorem shT (xs : List Int) : SeqAt.shaped (.tuple (xs.map PyData.int)) = true := by
  unfold SeqAt.shaped
  rw [show PyData.canLay0 (.tuple (xs.map PyData.int)) = PyData.canLayAll0 (xs.map PyData.int) from rfl, show PyData.depth (.tuple (xs.map PyData.int)) = PyData.depthAll (xs.map PyData.int) + 1 from rfl, canI, depI]
  rfl
theorem eqT (xs ys : List Int) : eqD (.tuple (xs.map PyData.int)) (.tuple (ys.map PyData.int)) = some (.d (.bool (xs == ys))) := by
  show (if SeqAt.shaped (.tuple (xs.map PyData.int)) && SeqAt.shaped (.tuple (ys.map PyData.int)) then some (BV.d (.bool (PyData.eqv (.tuple (xs.map PyData.int)) (.tuple (ys.map PyData.int))))) else none) = _
  rw [shT, shT]
  show some (BV.d (.bool (PyData.eqvAll (xs.map PyData.int) (ys.map PyData.int)))) = _
  rw [eqvI]
theorem neT (xs ys : List Int) : neD (.tuple (xs.map PyData.int)) (.tuple (ys.map PyData.int)) = some (.d (.bool (!(xs == ys)))) := by
  show (if SeqAt.shaped (.tuple (xs.map PyData.int)) && SeqAt.shaped (.tuple (ys.map PyData.int)) then some (BV.d (.bool (!PyData.eqv (.tuple (xs.map PyData.int)) (.tuple (ys.map PyData.int))))) else none) = _
  rw [shT, shT]
  show some (BV.d (.bool (!PyData.eqvAll (xs.map PyData.int) (ys.map PyData.int)))) = _
  rw [eqvI]
def msL (a b x : Int) : List Int := (if x < a then [x] else []) ++ (if a ≤ x - b then [x - b] else [])
def shw (a b z : Int) : Int := if z < a then z else z + b
theorem ms_eq (a b x : Int) : f_minutes_shown [.int a, .int b, .int x] = some (.tuple ((msL a b x).map PyData.int)) := by
  have z0 : szOk 0 = true := by decide
  have z1 : szOk 1 = true := by decide
  have z2 : szOk 2 = true := by decide
  by_cases h1 : x < a
  · by_cases h2 : a ≤ x - b
    · simp [f_minutes_shown, m_minutes_shown, runF, runIO, outD, env0, envIO, slOf, outsIO, ioD, mSeq, mPutAug, mPut, putAt, dPut, mBin, mC, mVar, varS, bnd, obd, peek, peekS, frz, frzS, peekAll, frzAll, dGetO, isK, keyK, dFind, keyB, sAD, sDA, flat1, iAdd, iSub, iMul, iDiv, iMod, iNeg, mUn, mutS, isDct, mIfS, mB, isB, ltD, leD, gtD, geD, mCall, aCons, aNil, intD, intD2, absD, mRet, mRetN, mNx, mBk, mCt, ownAny, mSet, setR, setOk_sh, setOk_ow, setOk_no, setOk_fv, mAsg, gN, gT, gsC, gsN, mTup, mLst, mDrop, mMut, isLst, apF, exF, mFor, iR1, iR2, iSeq, itD, mSl, slD, oN, oS, intO, mIf, mAndV, mOrV, mNotV, mAndT, mOrT, mNotT, mTru, truD, mIsN, mNotN, isND, isBD, notBD, mChain, mPar, mPL, normR, mApp, mDct, pCons, pNil, addD, mAug, tupleD, listD, sumD, maxD, minD, intsD, mComp, mYes, compL, wipeE, backE, freeS, forL, mAppIO, prepIO, ownD, slotsIO, putS, putIO, mulOk_r, mulOk_l, eqD_int, neD_int, eqD_str, neD_str, eqD_bl, neD_bl, h1, h2, z0, z1, z2, msL]
    · simp [f_minutes_shown, m_minutes_shown, runF, runIO, outD, env0, envIO, slOf, outsIO, ioD, mSeq, mPutAug, mPut, putAt, dPut, mBin, mC, mVar, varS, bnd, obd, peek, peekS, frz, frzS, peekAll, frzAll, dGetO, isK, keyK, dFind, keyB, sAD, sDA, flat1, iAdd, iSub, iMul, iDiv, iMod, iNeg, mUn, mutS, isDct, mIfS, mB, isB, ltD, leD, gtD, geD, mCall, aCons, aNil, intD, intD2, absD, mRet, mRetN, mNx, mBk, mCt, ownAny, mSet, setR, setOk_sh, setOk_ow, setOk_no, setOk_fv, mAsg, gN, gT, gsC, gsN, mTup, mLst, mDrop, mMut, isLst, apF, exF, mFor, iR1, iR2, iSeq, itD, mSl, slD, oN, oS, intO, mIf, mAndV, mOrV, mNotV, mAndT, mOrT, mNotT, mTru, truD, mIsN, mNotN, isND, isBD, notBD, mChain, mPar, mPL, normR, mApp, mDct, pCons, pNil, addD, mAug, tupleD, listD, sumD, maxD, minD, intsD, mComp, mYes, compL, wipeE, backE, freeS, forL, mAppIO, prepIO, ownD, slotsIO, putS, putIO, mulOk_r, mulOk_l, eqD_int, neD_int, eqD_str, neD_str, eqD_bl, neD_bl, h1, h2, z0, z1, z2, msL]
  · by_cases h2 : a ≤ x - b
    · simp [f_minutes_shown, m_minutes_shown, runF, runIO, outD, env0, envIO, slOf, outsIO, ioD, mSeq, mPutAug, mPut, putAt, dPut, mBin, mC, mVar, varS, bnd, obd, peek, peekS, frz, frzS, peekAll, frzAll, dGetO, isK, keyK, dFind, keyB, sAD, sDA, flat1, iAdd, iSub, iMul, iDiv, iMod, iNeg, mUn, mutS, isDct, mIfS, mB, isB, ltD, leD, gtD, geD, mCall, aCons, aNil, intD, intD2, absD, mRet, mRetN, mNx, mBk, mCt, ownAny, mSet, setR, setOk_sh, setOk_ow, setOk_no, setOk_fv, mAsg, gN, gT, gsC, gsN, mTup, mLst, mDrop, mMut, isLst, apF, exF, mFor, iR1, iR2, iSeq, itD, mSl, slD, oN, oS, intO, mIf, mAndV, mOrV, mNotV, mAndT, mOrT, mNotT, mTru, truD, mIsN, mNotN, isND, isBD, notBD, mChain, mPar, mPL, normR, mApp, mDct, pCons, pNil, addD, mAug, tupleD, listD, sumD, maxD, minD, intsD, mComp, mYes, compL, wipeE, backE, freeS, forL, mAppIO, prepIO, ownD, slotsIO, putS, putIO, mulOk_r, mulOk_l, eqD_int, neD_int, eqD_str, neD_str, eqD_bl, neD_bl, h1, h2, z0, z1, z2, msL]
    · simp [f_minutes_shown, m_minutes_shown, runF, runIO, outD, env0, envIO, slOf, outsIO, ioD, mSeq, mPutAug, mPut, putAt, dPut, mBin, mC, mVar, varS, bnd, obd, peek, peekS, frz, frzS, peekAll, frzAll, dGetO, isK, keyK, dFind, keyB, sAD, sDA, flat1, iAdd, iSub, iMul, iDiv, iMod, iNeg, mUn, mutS, isDct, mIfS, mB, isB, ltD, leD, gtD, geD, mCall, aCons, aNil, intD, intD2, absD, mRet, mRetN, mNx, mBk, mCt, ownAny, mSet, setR, setOk_sh, setOk_ow, setOk_no, setOk_fv, mAsg, gN, gT, gsC, gsN, mTup, mLst, mDrop, mMut, isLst, apF, exF, mFor, iR1, iR2, iSeq, itD, mSl, slD, oN, oS, intO, mIf, mAndV, mOrV, mNotV, mAndT, mOrT, mNotT, mTru, truD, mIsN, mNotN, isND, isBD, notBD, mChain, mPar, mPL, normR, mApp, mDct, pCons, pNil, addD, mAug, tupleD, listD, sumD, maxD, minD, intsD, mComp, mYes, compL, wipeE, backE, freeS, forL, mAppIO, prepIO, ownD, slotsIO, putS, putIO, mulOk_r, mulOk_l, eqD_int, neD_int, eqD_str, neD_str, eqD_bl, neD_bl, h1, h2, z0, z1, z2, msL]
theorem ms_mem {a b x z : Int} : z ∈ msL a b x ↔ shw a b z = x := by
  unfold msL shw
  rw [List.mem_append]
  by_cases h1 : x < a <;> by_cases h2 : a ≤ x - b <;> simp [h1, h2] <;> split <;> omega
theorem ms_srt (a b x : Int) : (msL a b x).Pairwise (· < ·) := by
  unfold msL
  by_cases h1 : x < a <;> by_cases h2 : a ≤ x - b <;> simp [h1, h2]
  omega
def due (a b x : Int) : List Int := ((List.range 500).filter fun j => shw a b (j : Nat) == x).map fun j => ((j : Nat) : Int)
theorem due_eq {a b x : Int} (ha : 60 ≤ a) (hb : -60 ≤ b) (hx : 0 ≤ x) (hx2 : x < 400) : due a b x = msL a b x := by
  refine srt_ext ?_ (ms_srt a b x) fun z => ?_
  · unfold due
    rw [List.pairwise_map]
    exact (List.pairwise_lt_range.filter _).imp fun {i j} h => by omega
  · rw [ms_mem]
    unfold due
    rw [List.mem_map]
    constructor
    · rintro ⟨j, hj, rfl⟩
      rw [List.mem_filter] at hj
      simpa using hj.2
    · intro h
      have hz : 0 ≤ z ∧ z < 500 := by
        unfold shw at h
        split at h <;> omega
      refine ⟨z.toNat, List.mem_filter.mpr ⟨List.mem_range.mpr (by omega), ?_⟩, by omega⟩
      rw [show ((z.toNat : Nat) : Int) = z by omega]
      simpa using h
theorem shown_eq (a b x : Int) : f_shown_clock [.int a, .int b, .int x] = some (.int (shw a b x)) := by
  unfold shw
  by_cases h : x < a <;> simp [f_shown_clock, m_shown_clock, runF, runIO, outD, env0, envIO, slOf, outsIO, ioD, mSeq, mPutAug, mPut, putAt, dPut, mBin, mC, mVar, varS, bnd, obd, peek, peekS, frz, frzS, peekAll, frzAll, dGetO, isK, keyK, dFind, keyB, sAD, sDA, flat1, iAdd, iSub, iMul, iDiv, iMod, iNeg, mUn, mutS, isDct, mIfS, mB, isB, ltD, leD, gtD, geD, mCall, aCons, aNil, intD, intD2, absD, mRet, mRetN, mNx, mBk, mCt, ownAny, mSet, setR, setOk_sh, setOk_ow, setOk_no, setOk_fv, mAsg, gN, gT, gsC, gsN, mTup, mLst, mDrop, mMut, isLst, apF, exF, mFor, iR1, iR2, iSeq, itD, mSl, slD, oN, oS, intO, mIf, mAndV, mOrV, mNotV, mAndT, mOrT, mNotT, mTru, truD, mIsN, mNotN, isND, isBD, notBD, mChain, mPar, mPL, normR, mApp, mDct, pCons, pNil, addD, mAug, tupleD, listD, sumD, maxD, minD, intsD, mComp, mYes, compL, wipeE, backE, freeS, forL, mAppIO, prepIO, ownD, slotsIO, putS, putIO, mulOk_r, mulOk_l, eqD_int, neD_int, eqD_str, neD_str, eqD_bl, neD_bl, h]
theorem skip_eq (a b : Int) : f_skipped [.int a, .int b] = some (if 0 < b then .tuple [.int a, .int (a + b)] else .none) := by
  have z2 : szOk 2 = true := by decide
  by_cases h : 0 < b <;> simp [f_skipped, m_skipped, runF, runIO, outD, env0, envIO, slOf, outsIO, ioD, mSeq, mPutAug, mPut, putAt, dPut, mBin, mC, mVar, varS, bnd, obd, peek, peekS, frz, frzS, peekAll, frzAll, dGetO, isK, keyK, dFind, keyB, sAD, sDA, flat1, iAdd, iSub, iMul, iDiv, iMod, iNeg, mUn, mutS, isDct, mIfS, mB, isB, ltD, leD, gtD, geD, mCall, aCons, aNil, intD, intD2, absD, mRet, mRetN, mNx, mBk, mCt, ownAny, mSet, setR, setOk_sh, setOk_ow, setOk_no, setOk_fv, mAsg, gN, gT, gsC, gsN, mTup, mLst, mDrop, mMut, isLst, apF, exF, mFor, iR1, iR2, iSeq, itD, mSl, slD, oN, oS, intO, mIf, mAndV, mOrV, mNotV, mAndT, mOrT, mNotT, mTru, truD, mIsN, mNotN, isND, isBD, notBD, mChain, mPar, mPL, normR, mApp, mDct, pCons, pNil, addD, mAug, tupleD, listD, sumD, maxD, minD, intsD, mComp, mYes, compL, wipeE, backE, freeS, forL, mAppIO, prepIO, ownD, slotsIO, putS, putIO, mulOk_r, mulOk_l, eqD_int, neD_int, eqD_str, neD_str, eqD_bl, neD_bl, h, z2, flat1]
theorem dbl_eq (a b : Int) : f_doubled [.int a, .int b] = some (if b < 0 then .tuple [.int (a + b), .int a] else .none) := by
  have z2 : szOk 2 = true := by decide
  by_cases h : b < 0 <;> simp [f_doubled, m_doubled, runF, runIO, outD, env0, envIO, slOf, outsIO, ioD, mSeq, mPutAug, mPut, putAt, dPut, mBin, mC, mVar, varS, bnd, obd, peek, peekS, frz, frzS, peekAll, frzAll, dGetO, isK, keyK, dFind, keyB, sAD, sDA, flat1, iAdd, iSub, iMul, iDiv, iMod, iNeg, mUn, mutS, isDct, mIfS, mB, isB, ltD, leD, gtD, geD, mCall, aCons, aNil, intD, intD2, absD, mRet, mRetN, mNx, mBk, mCt, ownAny, mSet, setR, setOk_sh, setOk_ow, setOk_no, setOk_fv, mAsg, gN, gT, gsC, gsN, mTup, mLst, mDrop, mMut, isLst, apF, exF, mFor, iR1, iR2, iSeq, itD, mSl, slD, oN, oS, intO, mIf, mAndV, mOrV, mNotV, mAndT, mOrT, mNotT, mTru, truD, mIsN, mNotN, isND, isBD, notBD, mChain, mPar, mPL, normR, mApp, mDct, pCons, pNil, addD, mAug, tupleD, listD, sumD, maxD, minD, intsD, mComp, mYes, compL, wipeE, backE, freeS, forL, mAppIO, prepIO, ownD, slotsIO, putS, putIO, mulOk_r, mulOk_l, eqD_int, neD_int, eqD_str, neD_str, eqD_bl, neD_bl, h, z2, flat1]
theorem ms_len (a b x : Int) : (msL a b x).length ≤ 2 := by
  unfold msL
  by_cases h1 : x < a <;> by_cases h2 : a ≤ x - b <;> simp [h1, h2]
theorem fm_len (a b : Int) : ∀ T : List Int, (T.flatMap (msL a b)).length ≤ 2 * T.length
  | [] => by simp
  | x :: T => by
    rw [List.flatMap_cons, List.length_append, List.length_cons]
    have := ms_len a b x
    have := fm_len a b T
    omega
def msD (a b : Int) (d : D) : List D := match d with | .int x => (msL a b x).map PyData.int | _ => []
theorem fm_map (a b : Int) : ∀ T : List Int, (T.map PyData.int).flatMap (msD a b) = (T.flatMap (msL a b)).map PyData.int
  | [] => rfl
  | x :: T => by
    rw [List.map_cons, List.flatMap_cons, List.flatMap_cons, List.map_append, fm_map a b T]
    rfl
theorem mem_int {T : List Int} {d : D} (h : d ∈ T.map PyData.int) : ∃ x ∈ T, d = .int x := by
  obtain ⟨x, hx, e⟩ := List.mem_map.mp h
  exact ⟨x, hx, e.symm⟩
theorem kept_eq (a b : Int) (T : List Int) (hT : T.length ≤ 6) : f_kept_by_clock [.int a, .int b, .tuple (T.map PyData.int)] = some (.tuple ((usort (T.flatMap (msL a b))).map PyData.int)) := by
  have hl := fm_len a b T
  let ρ : VE := [some (.sh (.int a)), some (.sh (.int b)), some (.sh (.tuple (T.map PyData.int))), none, none]
  have e1 : mComp2 (iSeq (mVar 2)) (gN 3) (mYes) (iSeq (mApp f_minutes_shown (aCons (mVar 0) (aCons (mVar 1) (aCons (mVar 3) (aNil)))))) (gN 4) (mYes) (mVar 4) [3, 4] [4] ρ = some (.new (.list ((T.map PyData.int).flatMap (msD a b))), ρ) :=
    comp2_pure (msD a b) (ρ0 := ρ) rfl rfl (fun d hd => by
      obtain ⟨x, _, rfl⟩ := mem_int hd
      have em := ms_eq a b x
      refine ⟨[some (.sh (.int a)), some (.sh (.int b)), some (.sh (.tuple (T.map PyData.int))), some (.sh (.int x)), none], rfl, rfl, ?_, rfl, fun y _ => ⟨_, rfl, rfl, ⟨_, rfl, rfl⟩, rfl, rfl⟩, rfl, rfl⟩
      have fl : flat1 (.tuple ((msL a b x).map PyData.int)) = false := rfl
      simp [runF, runIO, outD, env0, envIO, slOf, outsIO, ioD, mSeq, mPutAug, mPut, putAt, dPut, mBin, mC, mVar, varS, bnd, obd, peek, peekS, frz, frzS, peekAll, frzAll, dGetO, isK, keyK, dFind, keyB, sAD, sDA, flat1, iAdd, iSub, iMul, iDiv, iMod, iNeg, mUn, mutS, isDct, mIfS, mB, isB, ltD, leD, gtD, geD, mCall, aCons, aNil, intD, intD2, absD, mRet, mRetN, mNx, mBk, mCt, ownAny, mSet, setR, setOk_sh, setOk_ow, setOk_no, setOk_fv, mAsg, gN, gT, gsC, gsN, mTup, mLst, mDrop, mMut, isLst, apF, exF, mFor, iR1, iR2, iSeq, itD, mSl, slD, oN, oS, intO, mIf, mAndV, mOrV, mNotV, mAndT, mOrT, mNotT, mTru, truD, mIsN, mNotN, isND, isBD, notBD, mChain, mPar, mPL, normR, mApp, mDct, pCons, pNil, addD, mAug, tupleD, listD, sumD, maxD, minD, intsD, mComp, mYes, compL, wipeE, backE, freeS, forL, mAppIO, prepIO, ownD, slotsIO, putS, putIO, mulOk_r, mulOk_l, eqD_int, neD_int, eqD_str, neD_str, eqD_bl, neD_bl, em, msD]) (by rw [fm_map, List.length_map]; omega)
  rw [fm_map] at e1
  have e2 : m_kept_by_clock ρ = some (ρ, .rt (.tuple ((usort (T.flatMap (msL a b))).map PyData.int))) :=
    ret_of (call_of (acons_of (ss_of e1 rfl (intsD_map _) (by omega)) rfl) rfl rfl) rfl
  unfold f_kept_by_clock runF
  rw [show env0 5 [.int a, .int b, .tuple (T.map PyData.int)] = ρ from rfl, e2]
  rfl
def emp0 (a b : Int) (x : Int) : Bool := (msL a b x).isEmpty
def onI (f : Int → Bool) (d : D) : Bool := match d with | .int x => f x | _ => false
theorem flt_map (f : Int → Bool) : ∀ T : List Int, ((T.map PyData.int).filter (onI f)) = (T.filter f).map PyData.int
  | [] => rfl
  | x :: T => by
    rw [List.map_cons]
    cases h : f x with
    | true => rw [List.filter_cons_of_pos h, List.filter_cons_of_pos (show onI f (.int x) = true from h), flt_map f T]; rfl
    | false => rw [List.filter_cons_of_neg (p := onI f) (by intro z; rw [show onI f (.int x) = f x from rfl, h] at z; cases z), List.filter_cons_of_neg (p := f) (by rw [h]; decide), flt_map f T]
theorem lost_eq (a b : Int) (T : List Int) (hT : T.length ≤ 6) : f_lost_trips [.int a, .int b, .tuple (T.map PyData.int)] = some (.tuple ((T.filter (emp0 a b)).map PyData.int)) := by
  let ρ : VE := [some (.sh (.int a)), some (.sh (.int b)), some (.sh (.tuple (T.map PyData.int))), none]
  have z0 : szOk 0 = true := by decide
  have e1 : mComp (iSeq (mVar 2)) (gN 3) (mB (mBin eqD (mApp f_minutes_shown (aCons (mVar 0) (aCons (mVar 1) (aCons (mVar 3) (aNil))))) (mTup (aNil)))) (mVar 3) [3] ρ = some (.new (.list (((T.map PyData.int).filter (onI (emp0 a b))).map id)), ρ) :=
    comp_pure (ρ0 := ρ) rfl rfl (onI (emp0 a b)) id (fun d hd => by
      obtain ⟨x, _, rfl⟩ := mem_int hd
      have em := ms_eq a b x
      refine ⟨[some (.sh (.int a)), some (.sh (.int b)), some (.sh (.tuple (T.map PyData.int))), some (.sh (.int x))], rfl, ?_, fun _ => ⟨_, rfl, rfl⟩, rfl, rfl⟩
      have eq := eqT (msL a b x) []
      have hi : (msL a b x == []) = (msL a b x).isEmpty := by cases msL a b x <;> rfl
      rw [hi] at eq
      have eq' : eqD (.tuple ((msL a b x).map PyData.int)) (.tuple []) = some (.d (.bool (msL a b x).isEmpty)) := eq
      exact mB_of (bin_of (app_of' (rs := [.d (.int a), .d (.int b), .d (.int x)]) rfl rfl em rfl rfl) (tup_of rfl rfl z0) rfl rfl eq')) (by rw [List.length_map]; omega)
  rw [flt_map, List.map_id] at e1
  have e2 : m_lost_trips ρ = some (ρ, .rt (.tuple ((T.filter (emp0 a b)).map PyData.int))) := ret_of (call_of (acons_of e1 rfl) rfl rfl) rfl
  unfold f_lost_trips runF
  rw [show env0 4 [.int a, .int b, .tuple (T.map PyData.int)] = ρ from rfl, e2]
  rfl
def rowD (a b : Int) (x : Int) : D := .tuple ((msL a b x).map PyData.int)
def isRow (d : D) : Bool := match d with | .tuple (_ :: _) => true | _ => false
def hdR (d : D) : D := match d with | .tuple (x :: _) => x | _ => .none
def firsts (a b : Int) (T : List Int) : List Int := (T.filter fun x => !emp0 a b x).map fun x => (msL a b x).headD 0
theorem firsts_eq (a b : Int) : ∀ T : List Int, ((T.map (rowD a b)).filter isRow).map hdR = (firsts a b T).map PyData.int
  | [] => rfl
  | x :: T => by
    have ih := firsts_eq a b T
    unfold firsts at ih ⊢
    rw [List.map_cons]
    cases h : msL a b x with
    | nil =>
      have h1 : isRow (rowD a b x) = false := by unfold rowD; rw [h]; rfl
      have h2 : (!emp0 a b x) = false := by unfold emp0; rw [h]; rfl
      rw [List.filter_cons_of_neg (p := isRow) (by rw [h1]; decide), List.filter_cons_of_neg (p := fun x => !emp0 a b x) (by rw [h2]; decide), ih]
    | cons y l =>
      have h1 : isRow (rowD a b x) = true := by unfold rowD; rw [h]; rfl
      have h2 : (!emp0 a b x) = true := by unfold emp0; rw [h]; rfl
      rw [List.filter_cons_of_pos (p := isRow) h1, List.filter_cons_of_pos (p := fun x => !emp0 a b x) h2, List.map_cons, List.map_cons, List.map_cons, ih, h]
      unfold rowD
      rw [h]
      rfl
theorem firsts_len (a b : Int) (T : List Int) : (firsts a b T).length ≤ T.length := by
  unfold firsts
  rw [List.length_map]
  exact List.length_filter_le _ _
theorem once_eq (a b : Int) (T : List Int) (hT : T.length ≤ 6) : f_once_each [.int a, .int b, .tuple (T.map PyData.int)] = some (.tuple ((usort (firsts a b T)).map PyData.int)) := by
  let ρ : VE := [some (.sh (.int a)), some (.sh (.int b)), some (.sh (.tuple (T.map PyData.int))), none, none, none]
  have z0 : szOk 0 = true := by decide
  have e1 : mComp (iSeq (mVar 2)) (gN 4) (mYes) (mApp f_minutes_shown (aCons (mVar 0) (aCons (mVar 1) (aCons (mVar 4) (aNil))))) [4] ρ = some (.new (.list (((T.map PyData.int).filter (fun _ => true)).map fun d => match d with | .int x => rowD a b x | _ => .none)), ρ) :=
    comp_pure (ρ0 := ρ) rfl rfl (fun _ => true) (fun d => match d with | .int x => rowD a b x | _ => .none) (fun d hd => by
      obtain ⟨x, _, rfl⟩ := mem_int hd
      have em := ms_eq a b x
      exact ⟨[some (.sh (.int a)), some (.sh (.int b)), some (.sh (.tuple (T.map PyData.int))), none, some (.sh (.int x)), none], rfl, rfl, fun _ => ⟨_, app_of' (rs := [.d (.int a), .d (.int b), .d (.int x)]) rfl rfl em rfl rfl, rfl⟩, rfl, rfl⟩) (by rw [List.length_map]; omega)
  rw [List.filter_eq_self.mpr (fun _ _ => rfl), List.map_map] at e1
  have e1' : mComp (iSeq (mVar 2)) (gN 4) (mYes) (mApp f_minutes_shown (aCons (mVar 0) (aCons (mVar 1) (aCons (mVar 4) (aNil))))) [4] ρ = some (.new (.list (T.map (rowD a b))), ρ) := e1
  let ρ1 : VE := [some (.sh (.int a)), some (.sh (.int b)), some (.sh (.tuple (T.map PyData.int))), some (.own .ow (.list (T.map (rowD a b)))), none, none]
  let ρ2 : VE := [some (.sh (.int a)), some (.sh (.int b)), some (.sh (.tuple (T.map PyData.int))), some (.sh (.list (T.map (rowD a b)))), none, none]
  have s1 : mSet 3 (mComp (iSeq (mVar 2)) (gN 4) (mYes) (mApp f_minutes_shown (aCons (mVar 0) (aCons (mVar 1) (aCons (mVar 4) (aNil))))) [4]) ρ = some (ρ1, .nx) := set_of e1' rfl
  have e2 : mComp (iSeq (mVar 3)) (gN 5) (mB (mBin neD (mVar 5) (mTup (aNil)))) (mBin subD (mVar 5) (mC (.int 0))) [5] ρ1 = some (.new (.list (((T.map (rowD a b)).filter isRow).map hdR)), ρ2) :=
    comp_pure (ρ0 := ρ2) rfl rfl isRow hdR (fun d hd => by
      obtain ⟨x, _, rfl⟩ := List.mem_map.mp hd
      have ne : neD (rowD a b x) (.tuple []) = some (.d (.bool (isRow (rowD a b x)))) := by
        have e := neT (msL a b x) []
        have e' : neD (rowD a b x) (.tuple []) = some (.d (.bool (!(msL a b x == [])))) := e
        rw [e']
        unfold rowD
        cases msL a b x <;> rfl
      refine ⟨[some (.sh (.int a)), some (.sh (.int b)), some (.sh (.tuple (T.map PyData.int))), some (.sh (.list (T.map (rowD a b)))), none, some (.sh (rowD a b x))], rfl, mB_of (bin_of rfl (tup_of rfl rfl z0) rfl rfl ne), fun hr => ?_, rfl, rfl⟩
      have sb : subD (rowD a b x) (.int 0) = some (.d (hdR (rowD a b x))) := by
        unfold rowD at hr ⊢
        cases h : msL a b x with
        | nil => rw [h] at hr; cases hr
        | cons y l =>
          show obd (atI (PyData.int y :: l.map PyData.int) ((0 : Nat) : Int)) (fun x => some (BV.d x)) = _
          rw [atI_nat (j := 0) (v := .int y) rfl]
          rfl
      exact ⟨_, bin_of (r1 := .d (rowD a b x)) rfl rfl rfl rfl sb, rfl⟩) (by rw [List.length_map]; omega)
  rw [firsts_eq] at e2
  have hf := firsts_len a b T
  have e3 : mRet (mCall tupleD (aCons (mSS (mComp (iSeq (mVar 3)) (gN 5) (mB (mBin neD (mVar 5) (mTup (aNil)))) (mBin subD (mVar 5) (mC (.int 0))) [5])) (aNil))) ρ1 = some (ρ2, .rt (.tuple ((usort (firsts a b T)).map PyData.int))) :=
    ret_of (call_of (acons_of (ss_of e2 rfl (intsD_map _) (by omega)) rfl) rfl rfl) rfl
  unfold f_once_each runF m_once_each
  rw [show env0 6 [.int a, .int b, .tuple (T.map PyData.int)] = ρ from rfl, seq_nx s1, e3]
  rfl
theorem insU_len (x : Int) : ∀ l : List Int, x ∉ l → (insU x l).length = l.length + 1
  | [], _ => rfl
  | y :: l, h => by
    unfold insU
    rw [List.mem_cons, not_or] at h
    split
    · rfl
    · rw [if_neg h.1, List.length_cons, insU_len x l h.2, List.length_cons]
theorem usort_len : ∀ l : List Int, l.Nodup → (usort l).length = l.length
  | [], _ => rfl
  | x :: l, h => by
    rw [List.nodup_cons] at h
    show (insU x (usort l)).length = _
    rw [insU_len x _ (fun z => h.1 ((usort_mem x l).mp z)), usort_len l h.2, List.length_cons]
theorem usort_isort {l : List Int} (h : l.Nodup) : usort l = isort l := by
  have hn : (isort l).Nodup := (isort_perm l).nodup_iff.mpr h
  refine srt_ext (usort_srt l) ?_ fun z => ?_
  · have := (isort_srt l).and hn
    exact this.imp fun {x y} ⟨h1, h2⟩ => by omega
  · rw [usort_mem, (isort_perm l).mem_iff]
theorem flat_nodup (a b : Int) : ∀ T : List Int, T.Nodup → (T.flatMap (msL a b)).Nodup
  | [], _ => .nil
  | x :: T, h => by
    rw [List.nodup_cons] at h
    rw [List.flatMap_cons, List.nodup_append]
    refine ⟨(ms_srt a b x).imp fun {y z} h => by omega, flat_nodup a b T h.2, fun y hy z hz e => ?_⟩
    subst e
    obtain ⟨w, hw, hy2⟩ := List.mem_flatMap.mp hz
    rw [ms_mem] at hy hy2
    exact h.1 ((hy.symm.trans hy2) ▸ hw)
theorem firsts_nodup (a b : Int) : ∀ T : List Int, T.Nodup → (firsts a b T).Nodup := fun T h => by
  unfold firsts
  rw [List.nodup_iff_pairwise_ne, List.pairwise_map]
  have hp := (h.filter (fun x => !emp0 a b x))
  refine List.Pairwise.imp_of_mem ?_ hp
  intro x y hx hy hne e
  have hm : ∀ {x : Int}, x ∈ T.filter (fun x => !emp0 a b x) → shw a b ((msL a b x).headD 0) = x := fun {x} hx => by
    have h2 := (List.mem_filter.mp hx).2
    refine ms_mem.mp ?_
    unfold emp0 at h2
    cases h3 : msL a b x with
    | nil => rw [h3] at h2; cases h2
    | cons y l => exact List.mem_cons_self ..
  exact hne ((hm hx).symm.trans ((congrArg (shw a b) e).trans (hm hy)))
theorem len_split (f : Int → Bool) : ∀ T : List Int, (T.filter fun x => !f x).length + (T.filter f).length = T.length
  | [] => rfl
  | x :: T => by
    have ih := len_split f T
    cases h : f x with
    | true =>
      rw [List.filter_cons_of_neg (by rw [h]; decide), List.filter_cons_of_pos h, List.length_cons, List.length_cons]; omega
    | false =>
      rw [List.filter_cons_of_pos (by rw [h]; rfl), List.filter_cons_of_neg (by rw [h]; decide), List.length_cons, List.length_cons]; omega
theorem usort_le : ∀ l : List Int, (usort l).length ≤ l.length
  | [] => Nat.le_refl _
  | x :: l => by
    have h : ∀ m : List Int, (insU x m).length ≤ m.length + 1 := fun m => by
      induction m with
      | nil => simp [insU]
      | cons y m ih =>
        unfold insU
        split
        · simp
        · split
          · simp
          · simp only [List.length_cons]; omega
    have := h (usort l)
    have := usort_le l
    show (insU x (usort l)).length ≤ _
    rw [List.length_cons]
    omega
theorem rng_flt (n : Nat) (f : Int → Bool) : (rngD 0 n).filter (onI f) = (((List.range n).filter fun j => f (j : Nat)).map fun j => ((j : Nat) : Int)).map PyData.int := by
  have e : rngD 0 n = ((List.range n).map fun j => ((j : Nat) : Int)).map PyData.int := by
    unfold rngD
    rw [List.map_map]
    simp
  rw [e, flt_map, List.filter_map]
  rfl
abbrev E12 (w a b m x d t k o l : Option Sl) : VE := [w, a, b, m, x, d, t, k, o, l, none, none]
theorem shw_if (a b : Int) (i j : Nat) (z : Int) (ρ : VE) (hi : ρ[i]? = some (some (.sh (.int z)))) (h1 : ρ[1]? = some (some (.sh (.int a)))) (h2 : ρ[2]? = some (some (.sh (.int b)))) : mIf (mB (mBin ltD (mVar i) (mVar 1))) (mVar i) (mBin addD (mVar i) (mVar 2)) ρ = some (.d (.int (shw a b z)), ρ) := by
  unfold shw
  by_cases h : z < a <;> simp [mIf, mB, mBin, mVar, varS, hi, h1, h2, bnd, obd, peek, ltD, isB, addD, h]
theorem due_of (a b x : Int) (i j : Nat) (hij : i ≠ j) (hi1 : i ≠ 1) (hi2 : i ≠ 2) (ρ : VE) (h1 : ρ[1]? = some (some (.sh (.int a)))) (h2 : ρ[2]? = some (some (.sh (.int b)))) (hj : ρ[j]? = some (some (.sh (.int x)))) (hl : i < ρ.length) (hf : ∃ d, ρ[i]? = some d ∧ freeS ρ [i] = true)
    (ha : 60 ≤ a) (hb : -60 ≤ b) (hx : 0 ≤ x) (hx2 : x < 400) :
    mComp (iR1 (aCons (mC (.int 500)) (aNil))) (gN i) (mB (mBin eqD (mIf (mB (mBin ltD (mVar i) (mVar 1))) (mVar i) (mBin addD (mVar i) (mVar 2))) (mVar j))) (mVar i) [i] ρ = some (.new (.list ((msL a b x).map PyData.int)), ρ) := by
  obtain ⟨d0, hd0, hfr⟩ := hf
  have hw1 : (ρ.set i none)[i]? = some none := List.getElem?_set_self hl
  have e := comp_pure (mi := iR1 (aCons (mC (.int 500)) (aNil))) (g := gN i) (mt := mB (mBin eqD (mIf (mB (mBin ltD (mVar i) (mVar 1))) (mVar i) (mBin addD (mVar i) (mVar 2))) (mVar j))) (me := mVar i) (vs := [i]) (ρ := ρ) (ρ0 := ρ) (ds := rngD 0 500) rfl hfr (onI fun z => shw a b z == x) id (fun d hd => by
    obtain ⟨q, hq⟩ := List.mem_iff_getElem?.mp hd
    obtain ⟨rfl, _⟩ := rngD_get hq
    generalize (0 : Int) + (q : Nat) = z
    have g1 : ((ρ.set i none).set i (some (.sh (.int z))))[i]? = some (some (.sh (.int z))) := List.getElem?_set_self (by rw [List.length_set]; exact hl)
    have g2 : ((ρ.set i none).set i (some (.sh (.int z))))[1]? = some (some (.sh (.int a))) := by rw [List.getElem?_set_ne hi1, List.getElem?_set_ne hi1, h1]
    have g3 : ((ρ.set i none).set i (some (.sh (.int z))))[2]? = some (some (.sh (.int b))) := by rw [List.getElem?_set_ne hi2, List.getElem?_set_ne hi2, h2]
    have g4 : ((ρ.set i none).set i (some (.sh (.int z))))[j]? = some (some (.sh (.int x))) := by rw [List.getElem?_set_ne hij, List.getElem?_set_ne hij, hj]
    have v4 : mVar j ((ρ.set i none).set i (some (.sh (.int z)))) = some (.d (.int x), (ρ.set i none).set i (some (.sh (.int z)))) := by unfold mVar; rw [g4]; rfl
    have v1 : mVar i ((ρ.set i none).set i (some (.sh (.int z)))) = some (.d (.int z), (ρ.set i none).set i (some (.sh (.int z)))) := by unfold mVar; rw [g1]; rfl
    refine ⟨(ρ.set i none).set i (some (.sh (.int z))), ?_, mB_of (bin_of (shw_if a b i j z _ g1 g2 g3) v4 rfl rfl rfl), fun _ => ⟨_, v1, rfl⟩, ?_, ?_⟩
    · show gN i (.int z) (ρ.set i none) = _
      unfold gN
      rw [hw1]
      rfl
    · unfold freeS
      simp only [List.all_cons, List.all_nil, g1]
      rfl
    · show ((ρ.set i none).set i _).set i none = ρ.set i none
      rw [List.set_set, List.set_set]) (by rw [rngD_len]; decide)
  rw [rng_flt, List.map_id] at e
  have hdue : (((List.range 500).filter fun j => (fun z => shw a b z == x) ((j : Nat) : Int)).map fun j => ((j : Nat) : Int)) = msL a b x := due_eq ha hb hx hx2
  rw [hdue] at e
  have hbk : backE (wipeE ρ [i]) ρ [i] = ρ := by
    show (match ρ[i]? with | some o => (ρ.set i none).set i o | none => ρ.set i none) = ρ
    rw [hd0]
    show (ρ.set i none).set i d0 = ρ
    rw [List.set_set]
    apply List.ext_getElem?
    intro q
    by_cases hq : q = i
    · subst hq; rw [List.getElem?_set_self hl, hd0]
    · rw [List.getElem?_set_ne (Ne.symm hq)]
  rw [hbk] at e
  exact e
theorem law_holds_ok (ds : List Int) (k0 : Nat) (hd : Dr ds) : ∃ k', f_law_holds [wD ds k0] = some (.bool true, [wD ds k']) := by
  have z0 : szOk 0 = true := by decide
  have z2 : szOk 2 = true := by decide
  obtain ⟨r1, e1, hr1, _⟩ := nxn (many := 200) (me := mC (.int 200)) (ρ := (E12 (some (.own .io (wD ds (k0)))) none none none none none none none none none)) hd rfl rfl (by decide)
  obtain ⟨r2, e2, hr2, _⟩ := nxn (many := 60) (me := mC (.int 60)) (ρ := (E12 (some (.own .io (wD ds (k0 + 1)))) none none none none none none none none none)) hd rfl rfl (by decide)
  obtain ⟨r3, e3, hr3, _⟩ := nxn (many := 2) (me := mC (.int 2)) (ρ := (E12 (some (.own .io (wD ds (k0 + 1 + 1)))) none none none none none none none none none)) hd rfl rfl (by decide)
  obtain ⟨sg, hsg, e4⟩ : ∃ sg : Int, (sg = 1 ∨ sg = -1) ∧ mIf (mB (mBin eqD (mAppIO [true, false] f_law_next (aCons (mVar 0) (aCons (mC (.int 2)) (aNil)))) (mC (.int 0)))) (mC (.int 1)) (mUn iNeg (mC (.int 1))) (E12 (some (.own .io (wD ds (k0 + 1 + 1)))) none none none none none none none none none) = some (.d (.int sg), (E12 (some (.own .io (wD ds (k0 + 1 + 1 + 1)))) none none none none none none none none none)) := by
    have h := mif_of (ma := mC (.int 1)) (mb := mUn iNeg (mC (.int 1))) (mB_of (bin_of (f := eqD) (mb := mC (.int 0)) e3 rfl rfl rfl rfl))
    by_cases hz : r3 = 0
    · subst hz
      exact ⟨1, .inl rfl, h⟩
    · have hb : ((r3 : Int) == 0) = false := by rw [nat_eq0]; simp [hz]
      rw [hb] at h
      exact ⟨-1, .inr rfl, h⟩
  have mk : mulOk (1 + (r2 : Int)) sg = true := mulOk_r (by omega)
  have b0 : b_law_holds_0 (E12 (some (.own .io (wD ds (k0)))) none none none none none none none none none) = some ((E12 (some (.own .io (wD ds (k0 + 1 + 1 + 1)))) (some (.sh (.int (60 + (r1 : Int))))) (some (.sh (.int ((1 + (r2 : Int)) * sg)))) none none none none none none none), .nx) :=
    asg_of (tup_of (acons_of (bin_of rfl e1 rfl rfl rfl) (acons_of (bin_of (bin_of rfl e2 rfl rfl rfl) e4 rfl rfl (mul_of mk)) rfl)) rfl z2) rfl rfl
  obtain ⟨a, ha⟩ : ∃ a, a = 60 + (r1 : Int) := ⟨_, rfl⟩
  obtain ⟨b, hb⟩ : ∃ b, b = (1 + (r2 : Int)) * sg := ⟨_, rfl⟩
  rw [← ha, ← hb] at b0
  have ha1 : 60 ≤ a := by omega
  have hb1 : -60 ≤ b ∧ b ≤ 60 ∧ b ≠ 0 := by
    rcases hsg with rfl | rfl <;> omega
  obtain ⟨m, e5, hm, _⟩ := nxn (many := 400) (me := mC (.int 400)) (ρ := (E12 (some (.own .io (wD ds (k0 + 1 + 1 + 1)))) (some (.sh (.int a))) (some (.sh (.int b))) none none none none none none none)) hd rfl rfl (by decide)
  have b1 : b_law_holds_1 (E12 (some (.own .io (wD ds (k0 + 1 + 1 + 1)))) (some (.sh (.int a))) (some (.sh (.int b))) none none none none none none none) = some ((E12 (some (.own .io (wD ds (k0 + 1 + 1 + 1 + 1)))) (some (.sh (.int a))) (some (.sh (.int b))) (some (.sh (.int m))) none none none none none none), .nx) := set_of e5 rfl
  have b2 : b_law_holds_2 (E12 (some (.own .io (wD ds (k0 + 1 + 1 + 1 + 1)))) (some (.sh (.int a))) (some (.sh (.int b))) (some (.sh (.int m))) none none none none none none) = some ((E12 (some (.own .io (wD ds (k0 + 1 + 1 + 1 + 1)))) (some (.sh (.int a))) (some (.sh (.int b))) (some (.sh (.int m))) none none none none none none), .nx) := by
    have h1 := shw_if a b 3 0 m (E12 (some (.own .io (wD ds (k0 + 1 + 1 + 1 + 1)))) (some (.sh (.int a))) (some (.sh (.int b))) (some (.sh (.int m))) none none none none none none) rfl rfl rfl
    have h2 := bin_of (f := neD) (app_of' (ρ := (E12 (some (.own .io (wD ds (k0 + 1 + 1 + 1 + 1)))) (some (.sh (.int a))) (some (.sh (.int b))) (some (.sh (.int m))) none none none none none none)) (ms := aCons (mVar 1) (aCons (mVar 2) (aCons (mVar 3) (aNil)))) (rs := [.d (.int a), .d (.int b), .d (.int m)]) rfl rfl (shown_eq a b m) rfl rfl) h1 rfl rfl (neD_int _ _)
    rw [bne_self_eq_false] at h2
    exact ifs_no (mB_of h2)
  obtain ⟨x, e6, hx, _⟩ := nxn (many := 400) (me := mC (.int 400)) (ρ := (E12 (some (.own .io (wD ds (k0 + 1 + 1 + 1 + 1)))) (some (.sh (.int a))) (some (.sh (.int b))) (some (.sh (.int m))) none none none none none none)) hd rfl rfl (by decide)
  have b3 : b_law_holds_3 (E12 (some (.own .io (wD ds (k0 + 1 + 1 + 1 + 1)))) (some (.sh (.int a))) (some (.sh (.int b))) (some (.sh (.int m))) none none none none none none) = some ((E12 (some (.own .io (wD ds (k0 + 1 + 1 + 1 + 1 + 1)))) (some (.sh (.int a))) (some (.sh (.int b))) (some (.sh (.int m))) (some (.sh (.int x))) none none none none none), .nx) := set_of e6 rfl
  have b4 : b_law_holds_4 (E12 (some (.own .io (wD ds (k0 + 1 + 1 + 1 + 1 + 1)))) (some (.sh (.int a))) (some (.sh (.int b))) (some (.sh (.int m))) (some (.sh (.int x))) none none none none none) = some ((E12 (some (.own .io (wD ds (k0 + 1 + 1 + 1 + 1 + 1)))) (some (.sh (.int a))) (some (.sh (.int b))) (some (.sh (.int m))) (some (.sh (.int x))) (some (.sh (.tuple ((msL a b x).map PyData.int)))) none none none none), .nx) :=
    set_of (call_of (acons_of (due_of a b x 8 4 (by decide) (by decide) (by decide) (E12 (some (.own .io (wD ds (k0 + 1 + 1 + 1 + 1 + 1)))) (some (.sh (.int a))) (some (.sh (.int b))) (some (.sh (.int m))) (some (.sh (.int x))) none none none none none) rfl rfl rfl (by decide : 8 < 12) ⟨_, rfl, rfl⟩ ha1 hb1.1 (by omega) (by omega)) rfl) rfl rfl) rfl
  have b5 : b_law_holds_5 (E12 (some (.own .io (wD ds (k0 + 1 + 1 + 1 + 1 + 1)))) (some (.sh (.int a))) (some (.sh (.int b))) (some (.sh (.int m))) (some (.sh (.int x))) (some (.sh (.tuple ((msL a b x).map PyData.int)))) none none none none) = some ((E12 (some (.own .io (wD ds (k0 + 1 + 1 + 1 + 1 + 1)))) (some (.sh (.int a))) (some (.sh (.int b))) (some (.sh (.int m))) (some (.sh (.int x))) (some (.sh (.tuple ((msL a b x).map PyData.int)))) none none none none), .nx) := by
    have h2 := bin_of (f := neD) (app_of' (ρ := (E12 (some (.own .io (wD ds (k0 + 1 + 1 + 1 + 1 + 1)))) (some (.sh (.int a))) (some (.sh (.int b))) (some (.sh (.int m))) (some (.sh (.int x))) (some (.sh (.tuple ((msL a b x).map PyData.int)))) none none none none)) (ms := aCons (mVar 1) (aCons (mVar 2) (aCons (mVar 4) (aNil)))) (rs := [.d (.int a), .d (.int b), .d (.int x)]) rfl rfl (ms_eq a b x) rfl rfl) (mb := mVar 5) rfl rfl rfl (neT _ _)
    rw [beq_self_eq_true] at h2
    exact ifs_no (mB_of h2)
  generalize hw : some (Sl.own .io (wD ds (k0 + 1 + 1 + 1 + 1 + 1))) = w5 at b5
  generalize hdu : some (Sl.sh (.tuple ((msL a b x).map PyData.int))) = du at b4 b5
  have b6 : b_law_holds_6 (E12 w5 (some (.sh (.int a))) (some (.sh (.int b))) (some (.sh (.int m))) (some (.sh (.int x))) du none none none none) = some ((E12 w5 (some (.sh (.int a))) (some (.sh (.int b))) (some (.sh (.int m))) (some (.sh (.int x))) du none none none none), .nx) := by
    have s1 := skip_eq a b
    have s2 := dbl_eq a b
    by_cases hp : 0 < b
    · have hn : ¬ b < 0 := by omega
      rw [if_pos hp] at s1
      rw [if_neg hn] at s2
      simp [b_law_holds_6, runF, runIO, outD, env0, envIO, slOf, outsIO, ioD, mSeq, mPutAug, mPut, putAt, dPut, mBin, mC, mVar, varS, bnd, obd, peek, peekS, frz, frzS, peekAll, frzAll, dGetO, isK, keyK, dFind, keyB, sAD, sDA, flat1, iAdd, iSub, iMul, iDiv, iMod, iNeg, mUn, mutS, isDct, mIfS, mB, isB, ltD, leD, gtD, geD, mCall, aCons, aNil, intD, intD2, absD, mRet, mRetN, mNx, mBk, mCt, ownAny, mSet, setR, setOk_sh, setOk_ow, setOk_no, setOk_fv, mAsg, gN, gT, gsC, gsN, mTup, mLst, mDrop, mMut, isLst, apF, exF, mFor, iR1, iR2, iSeq, itD, mSl, slD, oN, oS, intO, mIf, mAndV, mOrV, mNotV, mAndT, mOrT, mNotT, mTru, truD, mIsN, mNotN, isND, isBD, notBD, mChain, mPar, mPL, normR, mApp, mDct, pCons, pNil, addD, mAug, tupleD, listD, sumD, maxD, minD, intsD, mComp, mYes, compL, wipeE, backE, freeS, forL, mAppIO, prepIO, ownD, slotsIO, putS, putIO, mulOk_r, mulOk_l, eqD_int, neD_int, eqD_str, neD_str, eqD_bl, neD_bl, s1, s2, hp, hn, z2, ne_tup2, show ∀ u v : D, flat1 (.tuple [u, v]) = false from fun _ _ => rfl]
    · have hn : b < 0 := by omega
      rw [if_neg hp] at s1
      rw [if_pos hn] at s2
      simp [b_law_holds_6, runF, runIO, outD, env0, envIO, slOf, outsIO, ioD, mSeq, mPutAug, mPut, putAt, dPut, mBin, mC, mVar, varS, bnd, obd, peek, peekS, frz, frzS, peekAll, frzAll, dGetO, isK, keyK, dFind, keyB, sAD, sDA, flat1, iAdd, iSub, iMul, iDiv, iMod, iNeg, mUn, mutS, isDct, mIfS, mB, isB, ltD, leD, gtD, geD, mCall, aCons, aNil, intD, intD2, absD, mRet, mRetN, mNx, mBk, mCt, ownAny, mSet, setR, setOk_sh, setOk_ow, setOk_no, setOk_fv, mAsg, gN, gT, gsC, gsN, mTup, mLst, mDrop, mMut, isLst, apF, exF, mFor, iR1, iR2, iSeq, itD, mSl, slD, oN, oS, intO, mIf, mAndV, mOrV, mNotV, mAndT, mOrT, mNotT, mTru, truD, mIsN, mNotN, isND, isBD, notBD, mChain, mPar, mPL, normR, mApp, mDct, pCons, pNil, addD, mAug, tupleD, listD, sumD, maxD, minD, intsD, mComp, mYes, compL, wipeE, backE, freeS, forL, mAppIO, prepIO, ownD, slotsIO, putS, putIO, mulOk_r, mulOk_l, eqD_int, neD_int, eqD_str, neD_str, eqD_bl, neD_bl, s1, s2, hp, hn, z2, ne_tup2, show ∀ u v : D, flat1 (.tuple [u, v]) = false from fun _ _ => rfl]
  subst hw
  -- trips
  obtain ⟨xs, k', e7, hl, hP⟩ := comp_draws (i := 10) (n := 6) (me := mAppIO [true, false] f_law_next (aCons (mVar 0) (aCons (mC (.int 400)) (aNil)))) (P := fun d => ∃ q : Nat, d = .int q ∧ q < 400) (k := k0 + 1 + 1 + 1 + 1 + 1) (ds := ds) (mi := iR1 (aCons (mC (.int 6)) (aNil)))
    (ρ := (E12 (some (.own .io (wD ds (k0 + 1 + 1 + 1 + 1 + 1)))) (some (.sh (.int a))) (some (.sh (.int b))) (some (.sh (.int m))) (some (.sh (.int x))) du none none none none)) rfl (by decide) rfl (by decide) (by decide : 10 < 12) rfl (fun q j _ => by
      obtain ⟨r, er, hr, _⟩ := nxn (many := 400) (me := mC (.int 400)) (k := q) (ρ := [some (.own .io (wD ds q)), some (.sh (.int a)), some (.sh (.int b)), some (.sh (.int m)), some (.sh (.int x)), du, none, none, none, none, some (.sh (.int j)), none]) hd rfl rfl (by decide)
      exact ⟨.int r, ⟨r, rfl, hr⟩, _, er, rfl⟩)
  obtain ⟨ns, rfl⟩ := nats_of (xs := xs) fun y hy => let ⟨q, h1, _⟩ := hP y hy; ⟨q, h1⟩
  have hns : ∀ q ∈ ns, q < 400 := fun q hq => by
    obtain ⟨q', h1, h2⟩ := hP _ (List.mem_map.mpr ⟨q, hq, rfl⟩)
    injection h1 with h1
    omega
  rw [List.length_map] at hl
  let T : List Int := usort (ns.map fun q => ((q : Nat) : Int))
  have hTl : T.length ≤ 6 := by
    have := usort_le (ns.map fun q => ((q : Nat) : Int))
    rw [List.length_map] at this
    show (usort _).length ≤ 6
    omega
  have hTs : T.Pairwise (· < ·) := usort_srt _
  have hTn : T.Nodup := hTs.imp fun {y z} h => by omega
  have hTm : ∀ z ∈ T, 0 ≤ z ∧ z < 400 := fun z hz => by
    have hz := (usort_mem z _).mp hz
    obtain ⟨q, hq, rfl⟩ := List.mem_map.mp hz
    have := hns q hq
    omega
  have b7 : b_law_holds_7 (E12 (some (.own .io (wD ds (k0 + 1 + 1 + 1 + 1 + 1)))) (some (.sh (.int a))) (some (.sh (.int b))) (some (.sh (.int m))) (some (.sh (.int x))) du none none none none) = some ((E12 (some (.own .io (wD ds k'))) (some (.sh (.int a))) (some (.sh (.int b))) (some (.sh (.int m))) (some (.sh (.int x))) du (some (.sh (.tuple (T.map PyData.int)))) none none none), .nx) := by
    have hi : lstI (.list (ns.map fun q => PyData.int (q : Nat))) = some (ns.map fun q => ((q : Nat) : Int)) := by
      rw [show (ns.map fun q => PyData.int ((q : Nat) : Int)) = (ns.map fun q => ((q : Nat) : Int)).map PyData.int by rw [List.map_map]; rfl]
      exact intsD_map _
    exact set_of (call_of (acons_of (ss_of e7 rfl hi (by rw [List.length_map]; omega)) rfl) rfl rfl) rfl
  generalize hw : some (Sl.own .io (wD ds k')) = w7 at b7
  clear_value T
  have b8 : b_law_holds_8 (E12 w7 (some (.sh (.int a))) (some (.sh (.int b))) (some (.sh (.int m))) (some (.sh (.int x))) du (some (.sh (.tuple (T.map PyData.int)))) none none none) = some ((E12 w7 (some (.sh (.int a))) (some (.sh (.int b))) (some (.sh (.int m))) (some (.sh (.int x))) du (some (.sh (.tuple (T.map PyData.int)))) (some (.own .ow (.list []))) none none), .nx) := by
    simp [b_law_holds_8, runF, runIO, outD, env0, envIO, slOf, outsIO, ioD, mSeq, mPutAug, mPut, putAt, dPut, mBin, mC, mVar, varS, bnd, obd, peek, peekS, frz, frzS, peekAll, frzAll, dGetO, isK, keyK, dFind, keyB, sAD, sDA, flat1, iAdd, iSub, iMul, iDiv, iMod, iNeg, mUn, mutS, isDct, mIfS, mB, isB, ltD, leD, gtD, geD, mCall, aCons, aNil, intD, intD2, absD, mRet, mRetN, mNx, mBk, mCt, ownAny, mSet, setR, setOk_sh, setOk_ow, setOk_no, setOk_fv, mAsg, gN, gT, gsC, gsN, mTup, mLst, mDrop, mMut, isLst, apF, exF, mFor, iR1, iR2, iSeq, itD, mSl, slD, oN, oS, intO, mIf, mAndV, mOrV, mNotV, mAndT, mOrT, mNotT, mTru, truD, mIsN, mNotN, isND, isBD, notBD, mChain, mPar, mPL, normR, mApp, mDct, pCons, pNil, addD, mAug, tupleD, listD, sumD, maxD, minD, intsD, mComp, mYes, compL, wipeE, backE, freeS, forL, mAppIO, prepIO, ownD, slotsIO, putS, putIO, mulOk_r, mulOk_l, eqD_int, neD_int, eqD_str, neD_str, eqD_bl, neD_bl, z0]
  obtain ⟨ρ9, e9, o8, rfl, _, f8⟩ := forL_inv (g := gN 8) (m := mSet 7 (mBin addD (mVar 7) (mComp (iR1 (aCons (mC (.int 500)) (aNil))) (gN 11) (mB (mBin eqD (mIf (mB (mBin ltD (mVar 11) (mVar 1))) (mVar 11) (mBin addD (mVar 11) (mVar 2))) (mVar 8))) (mVar 11) [11])))
    (I := fun j ρ => ∃ o8, ρ = (E12 w7 (some (.sh (.int a))) (some (.sh (.int b))) (some (.sh (.int m))) (some (.sh (.int x))) du (some (.sh (.tuple (T.map PyData.int)))) (some (.own .ow (.list (((T.take j).flatMap (msL a b)).map PyData.int)))) o8 none) ∧ setOk (some o8) = true ∧ freeS [o8] [0] = true) (T.map PyData.int) 0 (E12 w7 (some (.sh (.int a))) (some (.sh (.int b))) (some (.sh (.int m))) (some (.sh (.int x))) du (some (.sh (.tuple (T.map PyData.int)))) (some (.own .ow (.list []))) none none) (fun j d ρ hj hI => by
      obtain ⟨o8, rfl, h8, _⟩ := hI
      rw [Nat.zero_add]
      rw [List.getElem?_map] at hj
      cases hz : T[j]? with
      | none => rw [hz] at hj; cases hj
      | some z =>
        rw [hz] at hj
        cases hj
        obtain ⟨q1, q2⟩ := hTm z (List.mem_of_getElem? hz)
        have el := due_of a b z 11 8 (by decide) (by decide) (by decide) (E12 w7 (some (.sh (.int a))) (some (.sh (.int b))) (some (.sh (.int m))) (some (.sh (.int x))) du (some (.sh (.tuple (T.map PyData.int)))) (some (.own .ow (.list (((T.take j).flatMap (msL a b)).map PyData.int)))) (some (.sh (.int z))) none) rfl rfl rfl (by decide : 11 < 12) ⟨_, rfl, rfl⟩ ha1 hb1.1 q1 q2
        have l1 := fm_len a b (T.take j)
        have l2 := ms_len a b z
        have l3 : (T.take j).length ≤ 6 := by rw [List.length_take]; omega
        have hsz : szOk (((((T.take j).flatMap (msL a b)).map PyData.int).length + ((msL a b z).map PyData.int).length)) = true := sz1 (by rw [List.length_map, List.length_map]; omega)
        have en : (((T.take (j + 1)).flatMap (msL a b)).map PyData.int) = (((T.take j).flatMap (msL a b)).map PyData.int) ++ ((msL a b z).map PyData.int) := by
          rw [List.take_add_one, hz, List.flatMap_append, List.map_append]
          simp
        refine ⟨(E12 w7 (some (.sh (.int a))) (some (.sh (.int b))) (some (.sh (.int m))) (some (.sh (.int x))) du (some (.sh (.tuple (T.map PyData.int)))) (some (.own .ow (.list (((T.take j).flatMap (msL a b)).map PyData.int)))) (some (.sh (.int z))) none), (E12 w7 (some (.sh (.int a))) (some (.sh (.int b))) (some (.sh (.int m))) (some (.sh (.int x))) du (some (.sh (.tuple (T.map PyData.int)))) (some (.own .ow (.list (((T.take (j + 1)).flatMap (msL a b)).map PyData.int)))) (some (.sh (.int z))) none), ?_, ?_, _, rfl, rfl, rfl⟩
        · simp [gN, h8]
        · rw [en]
          exact set_of (bin_of (r1 := .own 7) rfl el rfl rfl (b := .new (.list ((((T.take j).flatMap (msL a b)).map PyData.int) ++ ((msL a b z).map PyData.int)))) (if_pos hsz)) rfl) ⟨none, rfl, rfl, rfl⟩
  rw [Nat.zero_add, List.length_map, List.take_length] at e9
  have b9 : b_law_holds_9 (E12 w7 (some (.sh (.int a))) (some (.sh (.int b))) (some (.sh (.int m))) (some (.sh (.int x))) du (some (.sh (.tuple (T.map PyData.int)))) (some (.own .ow (.list []))) none none) = some ((E12 w7 (some (.sh (.int a))) (some (.sh (.int b))) (some (.sh (.int m))) (some (.sh (.int x))) du (some (.sh (.tuple (T.map PyData.int)))) (some (.own .ow (.list ((T.flatMap (msL a b)).map PyData.int)))) o8 none), .nx) := (for_of rfl).trans e9
  -- lost
  have em0 : ∀ z : Int, emp0 a b z = (decide (0 < b) && (decide (a ≤ z) && decide (z < a + b))) := fun z => by
    unfold emp0 msL
    by_cases h1 : z < a
    · have : ¬ a ≤ z := by omega
      simp [h1, this]
    · by_cases h2 : a ≤ z - b
      · have : ¬ (z < a + b) := by omega
        simp [h1, h2, this]
      · have h3 : 0 < b := by omega
        have h4 : a ≤ z := by omega
        have h5 : z < a + b := by omega
        simp [h1, h2, h3, h4, h5]
  have e10 : mComp (iSeq (mVar 6)) (gN 8) (mAndT (mB (mBin gtD (mVar 2) (mC (.int 0)))) (mB (mChain leD ltD (mVar 1) (mVar 8) (mBin addD (mVar 1) (mVar 2))))) (mVar 8) [8] (E12 w7 (some (.sh (.int a))) (some (.sh (.int b))) (some (.sh (.int m))) (some (.sh (.int x))) du (some (.sh (.tuple (T.map PyData.int)))) (some (.own .ow (.list ((T.flatMap (msL a b)).map PyData.int)))) o8 none) = some (.new (.list (((T.map PyData.int).filter (onI (emp0 a b))).map id)), (E12 w7 (some (.sh (.int a))) (some (.sh (.int b))) (some (.sh (.int m))) (some (.sh (.int x))) du (some (.sh (.tuple (T.map PyData.int)))) (some (.own .ow (.list ((T.flatMap (msL a b)).map PyData.int)))) o8 none)) := by
    have e := comp_pure (mi := iSeq (mVar 6)) (g := gN 8) (mt := mAndT (mB (mBin gtD (mVar 2) (mC (.int 0)))) (mB (mChain leD ltD (mVar 1) (mVar 8) (mBin addD (mVar 1) (mVar 2))))) (me := mVar 8) (vs := [8]) (ρ := (E12 w7 (some (.sh (.int a))) (some (.sh (.int b))) (some (.sh (.int m))) (some (.sh (.int x))) du (some (.sh (.tuple (T.map PyData.int)))) (some (.own .ow (.list ((T.flatMap (msL a b)).map PyData.int)))) o8 none)) (ρ0 := (E12 w7 (some (.sh (.int a))) (some (.sh (.int b))) (some (.sh (.int m))) (some (.sh (.int x))) du (some (.sh (.tuple (T.map PyData.int)))) (some (.own .ow (.list ((T.flatMap (msL a b)).map PyData.int)))) o8 none)) rfl f8 (onI (emp0 a b)) id (fun d hd => by
      obtain ⟨z, _, rfl⟩ := mem_int hd
      refine ⟨(E12 w7 (some (.sh (.int a))) (some (.sh (.int b))) (some (.sh (.int m))) (some (.sh (.int x))) du (some (.sh (.tuple (T.map PyData.int)))) (some (.own .ow (.list ((T.flatMap (msL a b)).map PyData.int)))) (some (.sh (.int z))) none), rfl, ?_, fun _ => ⟨_, rfl, rfl⟩, rfl, rfl⟩
      rw [show onI (emp0 a b) (.int z) = emp0 a b z from rfl, em0 z]
      by_cases h1 : 0 < b <;> by_cases h2 : a ≤ z <;> by_cases h3 : z < a + b <;> simp [runF, runIO, outD, env0, envIO, slOf, outsIO, ioD, mSeq, mPutAug, mPut, putAt, dPut, mBin, mC, mVar, varS, bnd, obd, peek, peekS, frz, frzS, peekAll, frzAll, dGetO, isK, keyK, dFind, keyB, sAD, sDA, flat1, iAdd, iSub, iMul, iDiv, iMod, iNeg, mUn, mutS, isDct, mIfS, mB, isB, ltD, leD, gtD, geD, mCall, aCons, aNil, intD, intD2, absD, mRet, mRetN, mNx, mBk, mCt, ownAny, mSet, setR, setOk_sh, setOk_ow, setOk_no, setOk_fv, mAsg, gN, gT, gsC, gsN, mTup, mLst, mDrop, mMut, isLst, apF, exF, mFor, iR1, iR2, iSeq, itD, mSl, slD, oN, oS, intO, mIf, mAndV, mOrV, mNotV, mAndT, mOrT, mNotT, mTru, truD, mIsN, mNotN, isND, isBD, notBD, mChain, mPar, mPL, normR, mApp, mDct, pCons, pNil, addD, mAug, tupleD, listD, sumD, maxD, minD, intsD, mComp, mYes, compL, wipeE, backE, freeS, forL, mAppIO, prepIO, ownD, slotsIO, putS, putIO, mulOk_r, mulOk_l, eqD_int, neD_int, eqD_str, neD_str, eqD_bl, neD_bl, h1, h2, h3]) (by rw [List.length_map]; omega)
    exact e
  rw [flt_map, List.map_id] at e10
  have b10 : b_law_holds_10 (E12 w7 (some (.sh (.int a))) (some (.sh (.int b))) (some (.sh (.int m))) (some (.sh (.int x))) du (some (.sh (.tuple (T.map PyData.int)))) (some (.own .ow (.list ((T.flatMap (msL a b)).map PyData.int)))) o8 none) = some ((E12 w7 (some (.sh (.int a))) (some (.sh (.int b))) (some (.sh (.int m))) (some (.sh (.int x))) du (some (.sh (.tuple (T.map PyData.int)))) (some (.own .ow (.list ((T.flatMap (msL a b)).map PyData.int)))) o8 (some (.sh (.tuple ((T.filter (emp0 a b)).map PyData.int))))), .nx) := set_of (call_of (acons_of e10 rfl) rfl rfl) rfl
  have fl := fm_len a b T
  have fll := firsts_len a b T
  have es : srtD [.list ((T.flatMap (msL a b)).map PyData.int)] = some (.new (.list ((isort (T.flatMap (msL a b))).map PyData.int))) := by
    show obd (intsD ((T.flatMap (msL a b)).map PyData.int)) _ = _
    rw [intsD_map]
    exact if_pos (decide_eq_true (by omega))
  have qA := eqT (usort (T.flatMap (msL a b))) (isort (T.flatMap (msL a b)))
  rw [usort_isort (flat_nodup a b T hTn), beq_self_eq_true, ← usort_isort (flat_nodup a b T hTn)] at qA
  have qB := eqT (T.filter (emp0 a b)) (T.filter (emp0 a b))
  rw [beq_self_eq_true] at qB
  have qC : (((usort (firsts a b T)).map PyData.int).length : Int) = ((T.map PyData.int).length : Int) - (((T.filter (emp0 a b)).map PyData.int).length : Int) := by
    rw [List.length_map, List.length_map, List.length_map, usort_len _ (firsts_nodup a b T hTn)]
    have h1 := len_split (emp0 a b) T
    have h2 : (firsts a b T).length = (T.filter fun x => !emp0 a b x).length := by unfold firsts; rw [List.length_map]
    omega
  have b11 : b_law_holds_11 (E12 w7 (some (.sh (.int a))) (some (.sh (.int b))) (some (.sh (.int m))) (some (.sh (.int x))) du (some (.sh (.tuple (T.map PyData.int)))) (some (.own .ow (.list ((T.flatMap (msL a b)).map PyData.int)))) o8 (some (.sh (.tuple ((T.filter (emp0 a b)).map PyData.int))))) = some ((E12 w7 (some (.sh (.int a))) (some (.sh (.int b))) (some (.sh (.int m))) (some (.sh (.int x))) du (some (.sh (.tuple (T.map PyData.int)))) (some (.own .ow (.list ((T.flatMap (msL a b)).map PyData.int)))) o8 (some (.sh (.tuple ((T.filter (emp0 a b)).map PyData.int))))), .rt (.bool true)) := by
    refine ret_of (and_of (bin_of (app_of' (rs := [.d (.int a), .d (.int b), .d (.tuple (T.map PyData.int))]) rfl rfl (kept_eq a b T hTl) rfl rfl) (call_of (acons_of (call_of (rs := [.own 7]) rfl rfl es) rfl) rfl rfl) rfl rfl ?_)
      (and_of (bin_of (app_of' (rs := [.d (.int a), .d (.int b), .d (.tuple (T.map PyData.int))]) rfl rfl (lost_eq a b T hTl) rfl rfl) (mb := mVar 9) rfl rfl rfl qB)
        (bin_of (call_of (acons_of (app_of' (rs := [.d (.int a), .d (.int b), .d (.tuple (T.map PyData.int))]) rfl rfl (once_eq a b T hTl) rfl rfl) rfl) rfl rfl) (bin_of (f := iSub) (call_of (rs := [.d (.tuple (T.map PyData.int))]) rfl rfl rfl) (call_of (rs := [.d (.tuple ((T.filter (emp0 a b)).map PyData.int))]) rfl rfl rfl) rfl rfl rfl) rfl rfl (b := .d (.bool true)) ?_))) rfl
    · rw [usort_isort (flat_nodup a b T hTn)] at qA ⊢
      exact qA
    · rw [eqD_int, ← qC, beq_self_eq_true]
  subst hw hdu
  refine ⟨k', ?_⟩
  unfold f_law_holds runIO m_law_holds m_law_holds_0 m_law_holds_1 m_law_holds_2 m_law_holds_3 m_law_holds_4 m_law_holds_5 m_law_holds_6 m_law_holds_7 m_law_holds_8 m_law_holds_9 m_law_holds_10 m_law_holds_11
  rw [show envIO 12 [true] [wD ds k0] = (E12 (some (.own .io (wD ds k0))) none none none none none none none none none) from rfl, seq_nx b0, seq_nx b1, seq_nx b2, seq_nx b3, seq_nx b4, seq_nx b5, seq_nx b6, seq_nx b7, seq_nx b8, seq_nx b9, seq_nx b10, b11]
  rfl
end Nb

namespace Nb
open PySem PySem.Spec PyProof.Rows L2
abbrev lawK : Nat := 4
theorem all_mk {l : PySem.W.OpenLaw} {w : World} {K : PySem.W.Frag} {h : Heap} {mg : PySem.Str → Option Value} {fa : Addr} (X : K.In h) (G : h.Ns mainGlobals mg) (hfa : mg "law" = some (.ref fa))
    {a_shown_clock : Addr} {od_shown_clock an_shown_clock : Option Addr} {sl_shown_clock : Array (Option Value)} {oc_shown_clock kV_shown_clock dc_shown_clock pm_shown_clock cd_shown_clock ct_shown_clock : Value}
    (n_shown_clock : PySem.W.nsIn K mainGlobals "shown_clock" = some (some (.ref a_shown_clock))) (l_shown_clock : K.lookup a_shown_clock = some ⟨oc_shown_clock, od_shown_clock, .func (PySem.W.fnOf "shown_clock" "shown_clock" (defArgs s_shown_clock) (defBody s_shown_clock) (defScope s_shown_clock) .none kV_shown_clock dc_shown_clock pm_shown_clock an_shown_clock cd_shown_clock ct_shown_clock), sl_shown_clock⟩) (c_shown_clock : PySem.W.codeIn K cd_shown_clock "shown_clock" = true) (p_shown_clock : PySem.W.keepIn K (.ref a_shown_clock) = true)
    {a_minutes_shown : Addr} {od_minutes_shown an_minutes_shown : Option Addr} {sl_minutes_shown : Array (Option Value)} {oc_minutes_shown kV_minutes_shown dc_minutes_shown pm_minutes_shown cd_minutes_shown ct_minutes_shown : Value}
    (n_minutes_shown : PySem.W.nsIn K mainGlobals "minutes_shown" = some (some (.ref a_minutes_shown))) (l_minutes_shown : K.lookup a_minutes_shown = some ⟨oc_minutes_shown, od_minutes_shown, .func (PySem.W.fnOf "minutes_shown" "minutes_shown" (defArgs s_minutes_shown) (defBody s_minutes_shown) (defScope s_minutes_shown) .none kV_minutes_shown dc_minutes_shown pm_minutes_shown an_minutes_shown cd_minutes_shown ct_minutes_shown), sl_minutes_shown⟩) (c_minutes_shown : PySem.W.codeIn K cd_minutes_shown "minutes_shown" = true) (p_minutes_shown : PySem.W.keepIn K (.ref a_minutes_shown) = true)
    {a_skipped : Addr} {od_skipped an_skipped : Option Addr} {sl_skipped : Array (Option Value)} {oc_skipped kV_skipped dc_skipped pm_skipped cd_skipped ct_skipped : Value}
    (n_skipped : PySem.W.nsIn K mainGlobals "skipped" = some (some (.ref a_skipped))) (l_skipped : K.lookup a_skipped = some ⟨oc_skipped, od_skipped, .func (PySem.W.fnOf "skipped" "skipped" (defArgs s_skipped) (defBody s_skipped) (defScope s_skipped) .none kV_skipped dc_skipped pm_skipped an_skipped cd_skipped ct_skipped), sl_skipped⟩) (c_skipped : PySem.W.codeIn K cd_skipped "skipped" = true) (p_skipped : PySem.W.keepIn K (.ref a_skipped) = true)
    {a_doubled : Addr} {od_doubled an_doubled : Option Addr} {sl_doubled : Array (Option Value)} {oc_doubled kV_doubled dc_doubled pm_doubled cd_doubled ct_doubled : Value}
    (n_doubled : PySem.W.nsIn K mainGlobals "doubled" = some (some (.ref a_doubled))) (l_doubled : K.lookup a_doubled = some ⟨oc_doubled, od_doubled, .func (PySem.W.fnOf "doubled" "doubled" (defArgs s_doubled) (defBody s_doubled) (defScope s_doubled) .none kV_doubled dc_doubled pm_doubled an_doubled cd_doubled ct_doubled), sl_doubled⟩) (c_doubled : PySem.W.codeIn K cd_doubled "doubled" = true) (p_doubled : PySem.W.keepIn K (.ref a_doubled) = true)
    {a_kept_by_clock : Addr} {od_kept_by_clock an_kept_by_clock : Option Addr} {sl_kept_by_clock : Array (Option Value)} {oc_kept_by_clock kV_kept_by_clock dc_kept_by_clock pm_kept_by_clock cd_kept_by_clock ct_kept_by_clock : Value}
    (n_kept_by_clock : PySem.W.nsIn K mainGlobals "kept_by_clock" = some (some (.ref a_kept_by_clock))) (l_kept_by_clock : K.lookup a_kept_by_clock = some ⟨oc_kept_by_clock, od_kept_by_clock, .func (PySem.W.fnOf "kept_by_clock" "kept_by_clock" (defArgs s_kept_by_clock) (defBody s_kept_by_clock) (defScope s_kept_by_clock) .none kV_kept_by_clock dc_kept_by_clock pm_kept_by_clock an_kept_by_clock cd_kept_by_clock ct_kept_by_clock), sl_kept_by_clock⟩) (c_kept_by_clock : PySem.W.codeIn K cd_kept_by_clock "kept_by_clock" = true) (p_kept_by_clock : PySem.W.keepIn K (.ref a_kept_by_clock) = true)
    {a_lost_trips : Addr} {od_lost_trips an_lost_trips : Option Addr} {sl_lost_trips : Array (Option Value)} {oc_lost_trips kV_lost_trips dc_lost_trips pm_lost_trips cd_lost_trips ct_lost_trips : Value}
    (n_lost_trips : PySem.W.nsIn K mainGlobals "lost_trips" = some (some (.ref a_lost_trips))) (l_lost_trips : K.lookup a_lost_trips = some ⟨oc_lost_trips, od_lost_trips, .func (PySem.W.fnOf "lost_trips" "lost_trips" (defArgs s_lost_trips) (defBody s_lost_trips) (defScope s_lost_trips) .none kV_lost_trips dc_lost_trips pm_lost_trips an_lost_trips cd_lost_trips ct_lost_trips), sl_lost_trips⟩) (c_lost_trips : PySem.W.codeIn K cd_lost_trips "lost_trips" = true) (p_lost_trips : PySem.W.keepIn K (.ref a_lost_trips) = true)
    {a_once_each : Addr} {od_once_each an_once_each : Option Addr} {sl_once_each : Array (Option Value)} {oc_once_each kV_once_each dc_once_each pm_once_each cd_once_each ct_once_each : Value}
    (n_once_each : PySem.W.nsIn K mainGlobals "once_each" = some (some (.ref a_once_each))) (l_once_each : K.lookup a_once_each = some ⟨oc_once_each, od_once_each, .func (PySem.W.fnOf "once_each" "once_each" (defArgs s_once_each) (defBody s_once_each) (defScope s_once_each) .none kV_once_each dc_once_each pm_once_each an_once_each cd_once_each ct_once_each), sl_once_each⟩) (c_once_each : PySem.W.codeIn K cd_once_each "once_each" = true) (p_once_each : PySem.W.keepIn K (.ref a_once_each) = true)
    {a_law_draws : Addr} {od_law_draws an_law_draws : Option Addr} {sl_law_draws : Array (Option Value)} {oc_law_draws kV_law_draws dc_law_draws pm_law_draws cd_law_draws ct_law_draws : Value}
    (n_law_draws : PySem.W.nsIn K mainGlobals "_law_draws" = some (some (.ref a_law_draws))) (l_law_draws : K.lookup a_law_draws = some ⟨oc_law_draws, od_law_draws, .func (PySem.W.fnOf "_law_draws" "_law_draws" (defArgs s_law_draws) (defBody s_law_draws) (defScope s_law_draws) .none kV_law_draws dc_law_draws pm_law_draws an_law_draws cd_law_draws ct_law_draws), sl_law_draws⟩) (c_law_draws : PySem.W.codeIn K cd_law_draws "_law_draws" = true) (p_law_draws : PySem.W.keepIn K (.ref a_law_draws) = true)
    {a_law_next : Addr} {od_law_next an_law_next : Option Addr} {sl_law_next : Array (Option Value)} {oc_law_next kV_law_next dc_law_next pm_law_next cd_law_next ct_law_next : Value}
    (n_law_next : PySem.W.nsIn K mainGlobals "_law_next" = some (some (.ref a_law_next))) (l_law_next : K.lookup a_law_next = some ⟨oc_law_next, od_law_next, .func (PySem.W.fnOf "_law_next" "_law_next" (defArgs s_law_next) (defBody s_law_next) (defScope s_law_next) .none kV_law_next dc_law_next pm_law_next an_law_next cd_law_next ct_law_next), sl_law_next⟩) (c_law_next : PySem.W.codeIn K cd_law_next "_law_next" = true) (p_law_next : PySem.W.keepIn K (.ref a_law_next) = true)
    {a_law_holds : Addr} {od_law_holds an_law_holds : Option Addr} {sl_law_holds : Array (Option Value)} {oc_law_holds kV_law_holds dc_law_holds pm_law_holds cd_law_holds ct_law_holds : Value}
    (n_law_holds : PySem.W.nsIn K mainGlobals "_law_holds" = some (some (.ref a_law_holds))) (l_law_holds : K.lookup a_law_holds = some ⟨oc_law_holds, od_law_holds, .func (PySem.W.fnOf "_law_holds" "_law_holds" (defArgs s_law_holds) (defBody s_law_holds) (defScope s_law_holds) .none kV_law_holds dc_law_holds pm_law_holds an_law_holds cd_law_holds ct_law_holds), sl_law_holds⟩) (c_law_holds : PySem.W.codeIn K cd_law_holds "_law_holds" = true) (p_law_holds : PySem.W.keepIn K (.ref a_law_holds) = true)
    {a_law : Addr} {od_law an_law : Option Addr} {sl_law : Array (Option Value)} {oc_law kV_law dc_law pm_law cd_law ct_law : Value}
    (n_law : PySem.W.nsIn K mainGlobals "law" = some (some (.ref a_law))) (l_law : K.lookup a_law = some ⟨oc_law, od_law, .func (PySem.W.fnOf "law" "law" (defArgs s_law) (defBody s_law) (defScope s_law) .none kV_law dc_law pm_law an_law cd_law ct_law), sl_law⟩) (c_law : PySem.W.codeIn K cd_law "law" = true) (p_law : PySem.W.keepIn K (.ref a_law) = true)
    (y_abs : PySem.W.nsIn K mainGlobals "abs" = some none)
    (y_int : PySem.W.nsIn K mainGlobals "int" = some none)
    (y_len : PySem.W.nsIn K mainGlobals "len" = some none)
    (y_range : PySem.W.nsIn K mainGlobals "range" = some none)
    (y_set : PySem.W.nsIn K mainGlobals "set" = some none)
    (y_sorted : PySem.W.nsIn K mainGlobals "sorted" = some none)
    (y_tuple : PySem.W.nsIn K mainGlobals "tuple" = some none)
    : ∃ fd : FuncData, (∀ (s : Shared) (v : Value), BindsTo s fd ⟨[v], []⟩ [("script", v)]) ∧ ∀ base : Heap, K.In base → base.Ns mainGlobals mg → FnOk l.prog w K mg base CX0 lawK fa fd ["script"] (spLaw K) := by
  have e := hfa.symm.trans (PySem.W.mg_of X G n_law)
  cases e
  have z_abs := PySem.W.mg_none_of X G y_abs
  have z_int := PySem.W.mg_none_of X G y_int
  have z_len := PySem.W.mg_none_of X G y_len
  have z_range := PySem.W.mg_none_of X G y_range
  have z_set := PySem.W.mg_none_of X G y_set
  have z_sorted := PySem.W.mg_none_of X G y_sorted
  have z_tuple := PySem.W.mg_none_of X G y_tuple
  refine ⟨PySem.W.fnOf "law" "law" (defArgs s_law) (defBody s_law) (defScope s_law) .none kV_law dc_law pm_law an_law cd_law ct_law, fun s v => .of_eq rfl, fun base _ _ => ?_⟩
  have G_shown_clock := ok_shown_clock (P := l.prog) (w := w) (base := base) (fun_mk (st := s_shown_clock) l_shown_clock c_shown_clock p_shown_clock) (PySem.W.mg_of X G n_shown_clock)
  have G_minutes_shown := ok_minutes_shown (P := l.prog) (w := w) (base := base) (fun_mk (st := s_minutes_shown) l_minutes_shown c_minutes_shown p_minutes_shown) (PySem.W.mg_of X G n_minutes_shown) z_tuple
  have G_skipped := ok_skipped (P := l.prog) (w := w) (base := base) (fun_mk (st := s_skipped) l_skipped c_skipped p_skipped) (PySem.W.mg_of X G n_skipped)
  have G_doubled := ok_doubled (P := l.prog) (w := w) (base := base) (fun_mk (st := s_doubled) l_doubled c_doubled p_doubled) (PySem.W.mg_of X G n_doubled)
  have G_kept_by_clock := ok_kept_by_clock (P := l.prog) (w := w) (base := base) (fun_mk (st := s_kept_by_clock) l_kept_by_clock c_kept_by_clock p_kept_by_clock) (PySem.W.mg_of X G n_kept_by_clock) G_minutes_shown z_set z_sorted z_tuple
  have G_lost_trips := ok_lost_trips (P := l.prog) (w := w) (base := base) (fun_mk (st := s_lost_trips) l_lost_trips c_lost_trips p_lost_trips) (PySem.W.mg_of X G n_lost_trips) G_minutes_shown z_tuple
  have G_once_each := ok_once_each (P := l.prog) (w := w) (base := base) (fun_mk (st := s_once_each) l_once_each c_once_each p_once_each) (PySem.W.mg_of X G n_once_each) G_minutes_shown z_set z_sorted z_tuple
  have G__law_draws := ok_law_draws (P := l.prog) (w := w) (base := base) (fun_mk (st := s_law_draws) l_law_draws c_law_draws p_law_draws) (PySem.W.mg_of X G n_law_draws) z_abs z_int z_len z_range
  have G__law_next := ok_law_next (P := l.prog) (w := w) (base := base) (fun_mk (st := s_law_next) l_law_next c_law_next p_law_next) (PySem.W.mg_of X G n_law_next) z_int z_len
  have G__law_holds := ok_law_holds (P := l.prog) (w := w) (base := base) (fun_mk (st := s_law_holds) l_law_holds c_law_holds p_law_holds) (PySem.W.mg_of X G n_law_holds) G__law_next G_doubled G_kept_by_clock G_lost_trips G_minutes_shown G_once_each G_shown_clock G_skipped z_len z_range z_set z_sorted z_tuple
  have G_law := ok_law (P := l.prog) (w := w) (base := base) (fun_mk (st := s_law) l_law c_law p_law) (PySem.W.mg_of X G n_law) G__law_draws G__law_holds z_range
  exact law_end law_holds_ok (f_law_eq ▸ G_law)
end Nb
open PySem PySem.W PyProof.Rows
set_option maxHeartbeats 0 in
theorem PySem.Challenge.cw_nightbus_k15_whole_known_clocks_put_on_a_holds : PySem.Challenge.rw_nightbus_k15_whole_known_clocks_put_on_a.Holds := by
  w_on; o_law; k_head; (case hw => w_witness2)
  k_fill
  refine L2.walk_of (l := PySem.Challenge.rw_nightbus_k15_whole_known_clocks_put_on_a) (n := 63) (k := Nb.lawK) (x := "script") (CX := fun _ => L2.CX0) (sp := fun w => Nb.spLaw _) rfl (by decide) rfl ⟨rfl, by decide, by decide⟩ (fun w h Y => PySem.W.kIn_of Y) ?F (fun _ _ a ns hl _ hS => ⟨a, ns, rfl, hS, hl, fun _ => rfl⟩) (fun _ _ _ _ _ h => h)
  case F =>
    intro w mg fa h KX GX hmg
    refine' Nb.all_mk KX GX hmg ?n_shown_clock ?l_shown_clock ?c_shown_clock ?p_shown_clock ?n_minutes_shown ?l_minutes_shown ?c_minutes_shown ?p_minutes_shown ?n_skipped ?l_skipped ?c_skipped ?p_skipped ?n_doubled ?l_doubled ?c_doubled ?p_doubled ?n_kept_by_clock ?l_kept_by_clock ?c_kept_by_clock ?p_kept_by_clock ?n_lost_trips ?l_lost_trips ?c_lost_trips ?p_lost_trips ?n_once_each ?l_once_each ?c_once_each ?p_once_each ?n_law_draws ?l_law_draws ?c_law_draws ?p_law_draws ?n_law_next ?l_law_next ?c_law_next ?p_law_next ?n_law_holds ?l_law_holds ?c_law_holds ?p_law_holds ?n_law ?l_law ?c_law ?p_law ?y_abs ?y_int ?y_len ?y_range ?y_set ?y_sorted ?y_tuple
    (case n_shown_clock => k_is); (case l_shown_clock => k_is); (case c_shown_clock => k_is); (case p_shown_clock => k_is); (case n_minutes_shown => k_is); (case l_minutes_shown => k_is); (case c_minutes_shown => k_is); (case p_minutes_shown => k_is); (case n_skipped => k_is); (case l_skipped => k_is); (case c_skipped => k_is); (case p_skipped => k_is); (case n_doubled => k_is); (case l_doubled => k_is); (case c_doubled => k_is); (case p_doubled => k_is); (case n_kept_by_clock => k_is); (case l_kept_by_clock => k_is); (case c_kept_by_clock => k_is); (case p_kept_by_clock => k_is); (case n_lost_trips => k_is); (case l_lost_trips => k_is); (case c_lost_trips => k_is); (case p_lost_trips => k_is); (case n_once_each => k_is); (case l_once_each => k_is); (case c_once_each => k_is); (case p_once_each => k_is); (case n_law_draws => k_is); (case l_law_draws => k_is); (case c_law_draws => k_is); (case p_law_draws => k_is); (case n_law_next => k_is); (case l_law_next => k_is); (case c_law_next => k_is); (case p_law_next => k_is); (case n_law_holds => k_is); (case l_law_holds => k_is); (case c_law_holds => k_is); (case p_law_holds => k_is); (case n_law => k_is); (case l_law => k_is); (case c_law => k_is); (case p_law => k_is); (case y_abs => k_is); (case y_int => k_is); (case y_len => k_is); (case y_range => k_is); (case y_set => k_is); (case y_sorted => k_is); (case y_tuple => k_is)

