import PyProof.Rows.All
import Wide.All
import OpenK.AllK
import Wide.FinOn
import HandS.ForMost
import HandS.Wide
import HandS.Deep
import HandS.Zip
import HandS.Rev
import HandS.IsInst
import HandS.TupAny
import HandS.SortInts
import HandS.Style
import KE.DataEq
import KE.Datum
import HandS.Conv
import HandS.Gcd
import HandS.Text
import HandS.SortRule
import HandS.StrMore
import HandS.Sort
import HandS.More
import KE.DataMinMax
import KE.SortData
import PyProof.Claim2Refuses
import HandS.Exc
import HandS.ExcOwn
import HandS.ExcInit
import HandS.ExcField
import HandS.ExcIs
import HandS.WordsExc
import HandS.ExcCtx
import HandS.HotCalls
import KE.KExcIs
import HandS.TupLe
import PySem.Challenge.RW_diamondrows_k32_whole_flips_lead_over
set_option Elab.async false
set_option linter.all false
set_option maxRecDepth 100000
/-! Part 1: values as trees, who owns which list, the state of a def as trees. -/
section
namespace TV
open PySem PySem.Spec L2

/-- fz: shared, never written; top: the list itself is mine, its items are shared; full: every list in it is mine -/
inductive Own where | fz | top | full
  deriving DecidableEq
abbrev TVal := PyData × Own
abbrev TSt := List (Option TVal)

def KT (K : PySem.W.Frag) (a : Addr) (xs : List V) : Prop := ∃ (o : Obj) (its : Array Value) (n : Nat), K.lookup a = some o ∧ o.cls = .type "tuple" ∧ o.data = .seq its n ∧ its.size ≤ sizeLine ∧ Vals xs its.toList
def LstR (H : Hp) (M : Addr → Prop) (a : Addr) (xs : List V) : Prop := H a = some (.lst xs) ∧ ¬ M a
def TupR (K : PySem.W.Frag) (H : Hp) (M : Addr → Prop) (a : Addr) (xs : List V) : Prop := (Rd H a (.tup xs) ∧ ¬ M a) ∨ KT K a xs
theorem LstR.sq {K H M a xs} (h : LstR H M a xs) : SqL K H a xs := .inl (.inl h.1)
theorem TupR.sq {K H M a xs} (h : TupR K H M a xs) : SqT K H a xs := h.elim (fun h => .inl h.1) .inr

mutual
inductive Rp (K : PySem.W.Frag) (H : Hp) (M : Addr → Prop) : V → PyData → Prop
  | non : Rp K H M .non .none
  | bl (b : Bool) : Rp K H M (.bl b) (.bool b)
  | int (i : Int) : Rp K H M (.int i) (.int i)
  | str (x : Str) : Rp K H M (.str x) (.str x)
  | lst {a : Addr} {xs : List V} {ds : List PyData} : LstR H M a xs → RpAll K H M xs ds → Rp K H M (.ref a) (.list ds)
  | tup {a : Addr} {xs : List V} {ds : List PyData} : TupR K H M a xs → RpAll K H M xs ds → Rp K H M (.ref a) (.tuple ds)
inductive RpAll (K : PySem.W.Frag) (H : Hp) (M : Addr → Prop) : List V → List PyData → Prop
  | nil : RpAll K H M [] []
  | cons {v : V} {vs : List V} {d : PyData} {ds : List PyData} : Rp K H M v d → RpAll K H M vs ds → RpAll K H M (v :: vs) (d :: ds)
end
/-- a value without parts -/
def scalar : PyData → Bool
  | .none => true | .bool _ => true | .int _ => true | .str _ => true | _ => false
mutual
inductive Ow (K : PySem.W.Frag) (H : Hp) (M : Addr → Prop) : Own → V → PyData → List Addr → Prop
  | fz {v d} : Rp K H M v d → Ow K H M .fz v d []
  | sc {m v d} : scalar d = true → Rp K H M v d → Ow K H M m v d []
  | topL {a xs ds} : H a = some (.lst xs) → RpAll K H M xs ds → Ow K H M .top (.ref a) (.list ds) [a]
  | topT {v ds} : Rp K H M v (.tuple ds) → Ow K H M .top v (.tuple ds) []
  | fullL {a xs ds A} : H a = some (.lst xs) → OwAll K H M xs ds A → Ow K H M .full (.ref a) (.list ds) (a :: A)
  | fullT {a xs ds A} : TupR K H M a xs → OwAll K H M xs ds A → Ow K H M .full (.ref a) (.tuple ds) A
inductive OwAll (K : PySem.W.Frag) (H : Hp) (M : Addr → Prop) : List V → List PyData → List Addr → Prop
  | nil : OwAll K H M [] [] []
  | cons {v vs d ds A B} : Ow K H M .full v d A → OwAll K H M vs ds B → OwAll K H M (v :: vs) (d :: ds) (A ++ B)
end

section
variable {K : PySem.W.Frag} {H H' : Hp} {M M' : Addr → Prop}
/-- what is not mine-or-somebody's stays, and stays so -/
def Stay (H : Hp) (M : Addr → Prop) (H' : Hp) (M' : Addr → Prop) : Prop := ∀ b o, H b = some o → ¬ M b → H' b = some o ∧ ¬ M' b
theorem Stay.refl : Stay H M H M := fun _ _ e n => ⟨e, n⟩
theorem Stay.rd {b u} (s : Stay H M H' M') (h : Rd H b u) (n : ¬ M b) : Rd H' b u ∧ ¬ M' b := by
  rcases h with h | ⟨o, h⟩
  · exact ⟨.inl (s _ _ h n).1, (s _ _ h n).2⟩
  · exact ⟨.inr ⟨o, (s _ _ h n).1⟩, (s _ _ h n).2⟩
theorem LstR.stay {a xs} (s : Stay H M H' M') (h : LstR H M a xs) : LstR H' M' a xs := s _ _ h.1 h.2
theorem TupR.stay {a xs} (s : Stay H M H' M') (h : TupR K H M a xs) : TupR K H' M' a xs := h.elim (fun h => .inl (s.rd h.1 h.2)) .inr
mutual
theorem Rp.stay (s : Stay H M H' M') : ∀ (d : PyData) (v : V), Rp K H M v d → Rp K H' M' v d
  | _, _, .non => .non
  | _, _, .bl b => .bl b
  | _, _, .int i => .int i
  | _, _, .str x => .str x
  | _, _, .lst h r => .lst (h.stay s) (RpAll.stay s _ _ r)
  | _, _, .tup h r => .tup (h.stay s) (RpAll.stay s _ _ r)
theorem RpAll.stay (s : Stay H M H' M') : ∀ (ds : List PyData) (vs : List V), RpAll K H M vs ds → RpAll K H' M' vs ds
  | _, _, .nil => .nil
  | _, _, .cons h r => .cons (Rp.stay s _ _ h) (RpAll.stay s _ _ r)
end
mutual
theorem Ow.stay (s : Stay H M H' M') : ∀ (d : PyData) (m : Own) (v : V) (A : List Addr), Ow K H M m v d A → (∀ a ∈ A, H' a = H a) → Ow K H' M' m v d A
  | _, _, _, _, .fz h, _ => .fz (Rp.stay s _ _ h)
  | _, _, _, _, .sc e h, _ => .sc e (Rp.stay s _ _ h)
  | _, _, _, _, .topL h r, k => .topL ((k _ (by simp)).trans h) (RpAll.stay s _ _ r)
  | _, _, _, _, .topT h, _ => .topT (Rp.stay s _ _ h)
  | _, _, _, _, .fullL h r, k => .fullL ((k _ (by simp)).trans h) (OwAll.stay s _ _ _ r fun a ha => k a (List.mem_cons_of_mem _ ha))
  | _, _, _, _, .fullT h r, k => .fullT (h.stay s) (OwAll.stay s _ _ _ r k)
theorem OwAll.stay (s : Stay H M H' M') : ∀ (ds : List PyData) (vs : List V) (A : List Addr), OwAll K H M vs ds A → (∀ a ∈ A, H' a = H a) → OwAll K H' M' vs ds A
  | _, _, _, .nil, _ => .nil
  | _, _, _, .cons h r, k => .cons (Ow.stay s _ _ _ _ h fun a ha => k a (List.mem_append_left _ ha)) (OwAll.stay s _ _ _ r fun a ha => k a (List.mem_append_right _ ha))
end
/-- M grows less: the frozen part stays frozen -/
theorem stay_less (h : ∀ a, M' a → M a) : Stay H M H M' := fun b o e n => ⟨e, fun x => n (h b x)⟩
mutual
/-- what was mine is given up -/
theorem Ow.give : ∀ (d : PyData) (m : Own) (v : V) (A : List Addr), Ow K H M m v d A → (∀ a, M' a → M a) → (∀ a ∈ A, ¬ M' a) → Rp K H M' v d
  | _, _, _, _, .fz h, l, _ => Rp.stay (stay_less l) _ _ h
  | _, _, _, _, .sc _ h, l, _ => Rp.stay (stay_less l) _ _ h
  | _, _, _, _, .topL h r, l, n => .lst ⟨h, n _ (by simp)⟩ (RpAll.stay (stay_less l) _ _ r)
  | _, _, _, _, .topT h, l, _ => Rp.stay (stay_less l) _ _ h
  | _, _, _, _, .fullL h r, l, n => .lst ⟨h, n _ (by simp)⟩ (OwAll.give _ _ _ r l fun a ha => n a (List.mem_cons_of_mem _ ha))
  | _, _, _, _, .fullT h r, l, n => .tup (h.stay (stay_less l)) (OwAll.give _ _ _ r l n)
theorem OwAll.give : ∀ (ds : List PyData) (vs : List V) (A : List Addr), OwAll K H M vs ds A → (∀ a, M' a → M a) → (∀ a ∈ A, ¬ M' a) → RpAll K H M' vs ds
  | _, _, _, .nil, _, _ => .nil
  | _, _, _, .cons h r, l, n => .cons (Ow.give _ _ _ _ h l fun a ha => n a (List.mem_append_left _ ha)) (OwAll.give _ _ _ r l fun a ha => n a (List.mem_append_right _ ha))
end
mutual
/-- what is mine stands in the heap -/
theorem Ow.there : ∀ (d : PyData) (m : Own) (v : V) (A : List Addr), Ow K H M m v d A → ∀ a ∈ A, ∃ xs, H a = some (.lst xs)
  | _, _, _, _, .topL h _, a, ha => by rw [List.mem_singleton] at ha; subst ha; exact ⟨_, h⟩
  | _, _, _, _, .fullL h r, a, ha => by
    rcases List.mem_cons.mp ha with rfl | ha
    · exact ⟨_, h⟩
    · exact OwAll.there _ _ _ r a ha
  | _, _, _, _, .fullT _ r, a, ha => OwAll.there _ _ _ r a ha
theorem OwAll.there : ∀ (ds : List PyData) (vs : List V) (A : List Addr), OwAll K H M vs ds A → ∀ a ∈ A, ∃ xs, H a = some (.lst xs)
  | _, _, _, .cons h r, a, ha => (List.mem_append.mp ha).elim (fun z => Ow.there _ _ _ _ h a z) fun z => OwAll.there _ _ _ r a z
end
mutual
theorem Rp.dp : ∀ (d : PyData) (v : V), Rp K H M v d → Dp K H v d
  | _, _, .non => .non
  | _, _, .bl b => .bl b
  | _, _, .int i => .int i
  | _, _, .str x => .str x
  | _, _, .lst h r => .lst h.sq (RpAll.dp _ _ r)
  | _, _, .tup h r => .tup h.sq (RpAll.dp _ _ r)
theorem RpAll.dp : ∀ (ds : List PyData) (vs : List V), RpAll K H M vs ds → DpAll K H vs ds
  | _, _, .nil => .nil
  | _, _, .cons h r => .cons (Rp.dp _ _ h) (RpAll.dp _ _ r)
end
theorem Ow.dp {d m v A} (h : Ow K H M m v d A) : Dp K H v d := Rp.dp (M := fun _ => False) _ _ (Ow.give _ _ _ _ h (fun _ x => x.elim) fun _ _ x => x)
theorem OwAll.dp {ds vs A} (h : OwAll K H M vs ds A) : DpAll K H vs ds := RpAll.dp (M := fun _ => False) _ _ (OwAll.give _ _ _ h (fun _ x => x.elim) fun _ _ x => x)
theorem dpAll_len : ∀ {vs : List V} {ds : List PyData}, DpAll K H vs ds → vs.length = ds.length
  | _, _, .nil => rfl
  | _, _, .cons _ r => by rw [List.length_cons, List.length_cons, dpAll_len r]
theorem RpAll.len {vs : List V} {ds : List PyData} (h : RpAll K H M vs ds) : vs.length = ds.length := dpAll_len (RpAll.dp _ _ h)
theorem OwAll.len {vs : List V} {ds : List PyData} {A} (h : OwAll K H M vs ds A) : vs.length = ds.length := dpAll_len h.dp
theorem RpAll.get : ∀ {vs : List V} {ds : List PyData} (i : Nat) {d : PyData}, RpAll K H M vs ds → ds[i]? = some d → ∃ v, vs[i]? = some v ∧ Rp K H M v d
  | _, _, _, _, .nil, e => by simp at e
  | _, _, 0, _, .cons h _, e => by simp at e; subst e; exact ⟨_, rfl, h⟩
  | _, _, i + 1, _, .cons _ r, e => by
    obtain ⟨v, h1, h2⟩ := RpAll.get i r (by simpa using e)
    exact ⟨v, by simpa using h1, h2⟩
theorem dpAll_get : ∀ {vs : List V} {ds : List PyData} (i : Nat) {d : PyData}, DpAll K H vs ds → ds[i]? = some d → ∃ v, vs[i]? = some v ∧ Dp K H v d
  | _, _, _, _, .nil, e => by simp at e
  | _, _, 0, _, .cons h _, e => by simp at e; subst e; exact ⟨_, rfl, h⟩
  | _, _, i + 1, _, .cons _ r, e => by
    obtain ⟨v, h1, h2⟩ := dpAll_get i r (by simpa using e)
    exact ⟨v, by simpa using h1, h2⟩
theorem RpAll.append : ∀ {vs ws : List V} {ds es : List PyData}, RpAll K H M vs ds → RpAll K H M ws es → RpAll K H M (vs ++ ws) (ds ++ es)
  | _, _, _, _, .nil, s => s
  | _, _, _, _, .cons h r, s => .cons h (RpAll.append r s)
theorem RpAll.take : ∀ {vs : List V} {ds : List PyData} (n : Nat), RpAll K H M vs ds → RpAll K H M (vs.take n) (ds.take n)
  | _, _, 0, _ => .nil
  | _, _, n + 1, .nil => .nil
  | _, _, n + 1, .cons h r => .cons h (RpAll.take n r)
theorem RpAll.drop : ∀ {vs : List V} {ds : List PyData} (n : Nat), RpAll K H M vs ds → RpAll K H M (vs.drop n) (ds.drop n)
  | _, _, 0, r => r
  | _, _, n + 1, .nil => .nil
  | _, _, n + 1, .cons _ r => RpAll.drop n r
theorem RpAll.set : ∀ {vs : List V} {ds : List PyData} (i : Nat) {v d}, RpAll K H M vs ds → Rp K H M v d → RpAll K H M (vs.set i v) (ds.set i d)
  | _, _, _, _, _, .nil, _ => .nil
  | _, _, 0, _, _, .cons _ r, h => .cons h r
  | _, _, i + 1, _, _, .cons h r, q => .cons h (RpAll.set i r q)
theorem RpAll.reverse {vs : List V} {ds : List PyData} (h : RpAll K H M vs ds) : RpAll K H M vs.reverse ds.reverse := by
  induction vs generalizing ds with
  | nil => cases h; exact .nil
  | cons v vs ih => cases h with
    | cons h r => rw [List.reverse_cons, List.reverse_cons]; exact (ih r).append (.cons h .nil)
theorem OwAll.append : ∀ {vs ws : List V} {ds es : List PyData} {A B}, OwAll K H M vs ds A → OwAll K H M ws es B → OwAll K H M (vs ++ ws) (ds ++ es) (A ++ B)
  | _, _, _, _, _, _, .nil, s => s
  | _, _, _, _, _, _, .cons h r, s => by rw [List.append_assoc]; exact .cons h (OwAll.append r s)
mutual
/-- no list anywhere in it -/
def noList : PyData → Bool
  | .list _ => false
  | .dict _ => false
  | .tuple ds => noLists ds
  | _ => true
def noLists : List PyData → Bool
  | [] => true
  | d :: ds => noList d && noLists ds
end
/-- no list among its items -/
def flatK : PyData → Bool
  | .list ds => noLists ds
  | .tuple ds => noLists ds
  | _ => true
mutual
theorem Ow.flat : ∀ (d : PyData) (m : Own) (v : V) (A : List Addr), Ow K H M m v d A → noList d = true → Rp K H M v d ∧ A = []
  | _, _, _, _, .fz h, _ => ⟨h, rfl⟩
  | _, _, _, _, .sc _ h, _ => ⟨h, rfl⟩
  | _, _, _, _, .topL h r, e => by simp [noList] at e
  | _, _, _, _, .topT h, _ => ⟨h, rfl⟩
  | _, _, _, _, .fullL h r, e => by simp [noList] at e
  | _, _, _, _, .fullT h r, e => by
    obtain ⟨r', rfl⟩ := OwAll.flat _ _ _ r (by simpa [noList] using e)
    exact ⟨.tup h r', rfl⟩
theorem OwAll.flat : ∀ (ds : List PyData) (vs : List V) (A : List Addr), OwAll K H M vs ds A → noLists ds = true → RpAll K H M vs ds ∧ A = []
  | _, _, _, .nil, _ => ⟨.nil, rfl⟩
  | _, _, _, .cons h r, e => by
    simp only [noLists, Bool.and_eq_true] at e
    obtain ⟨h', rfl⟩ := Ow.flat _ _ _ _ h e.1
    obtain ⟨r', rfl⟩ := OwAll.flat _ _ _ r e.2
    exact ⟨.cons h' r', rfl⟩
end
mutual
/-- what has no list is full -/
theorem Rp.full : ∀ (d : PyData) (v : V), Rp K H M v d → noList d = true → Ow K H M .full v d []
  | _, _, .non, _ => .sc rfl .non
  | _, _, .bl b, _ => .sc rfl (.bl b)
  | _, _, .int i, _ => .sc rfl (.int i)
  | _, _, .str x, _ => .sc rfl (.str x)
  | _, _, .lst h r, e => by simp [noList] at e
  | _, _, .tup h r, e => .fullT h (RpAll.full _ _ r (by simpa [noList] using e))
theorem RpAll.full : ∀ (ds : List PyData) (vs : List V), RpAll K H M vs ds → noLists ds = true → OwAll K H M vs ds []
  | _, _, .nil, _ => .nil
  | _, _, .cons h r, e => by
    simp only [noLists, Bool.and_eq_true] at e
    exact .cons (A := []) (B := []) (Rp.full _ _ h e.1) (RpAll.full _ _ r e.2)
end
end

/-! ### the state -/
inductive OwS (K : PySem.W.Frag) (H : Hp) (M : Addr → Prop) : St → TSt → List Addr → Prop
  | nil : OwS K H M [] [] []
  | sn {v σ ts A} : OwS K H M σ ts A → OwS K H M (v :: σ) (none :: ts) A
  | sv {v c σ ts A B} : Ow K H M c.2 v c.1 A → OwS K H M σ ts B → OwS K H M (some v :: σ) (some c :: ts) (A ++ B)
section
variable {K : PySem.W.Frag} {H H' : Hp} {M M' : Addr → Prop}
theorem OwS.stay (s : Stay H M H' M') : ∀ {σ ts A}, OwS K H M σ ts A → (∀ a ∈ A, H' a = H a) → OwS K H' M' σ ts A
  | _, _, _, .nil, _ => .nil
  | _, _, _, .sn h, k => .sn (OwS.stay s h k)
  | _, _, _, .sv h r, k => .sv (Ow.stay s _ _ _ _ h fun a ha => k a (List.mem_append_left _ ha)) (OwS.stay s r fun a ha => k a (List.mem_append_right _ ha))
theorem OwS.there : ∀ {σ ts A}, OwS K H M σ ts A → ∀ a ∈ A, ∃ xs, H a = some (.lst xs)
  | _, _, _, .sn h, a, ha => OwS.there h a ha
  | _, _, _, .sv h r, a, ha => (List.mem_append.mp ha).elim (fun z => Ow.there _ _ _ _ h a z) fun z => OwS.there r a z
theorem OwS.len : ∀ {σ ts A}, OwS K H M σ ts A → σ.length = ts.length
  | _, _, _, .nil => rfl
  | _, _, _, .sn h => by rw [List.length_cons, List.length_cons, h.len]
  | _, _, _, .sv _ r => by rw [List.length_cons, List.length_cons, r.len]
/-- a slot is taken out -/
theorem OwS.take : ∀ {σ ts A} (i : Nat) {c}, OwS K H M σ ts A → ts[i]? = some (some c) → ∃ v B A', σ[i]? = some (some v) ∧ Ow K H M c.2 v c.1 B ∧ OwS K H M σ (ts.set i none) A' ∧ A.Perm (B ++ A')
  | _, _, _, _, _, .nil, e => by simp at e
  | _, _, _, 0, _, .sn h, e => by simp at e
  | _, _, _, 0, _, .sv h r, e => by
    simp at e; subst e
    exact ⟨_, _, _, rfl, h, .sn r, List.Perm.refl _⟩
  | _, _, _, i + 1, _, .sn h, e => by
    obtain ⟨v, B, A', h1, h2, h3, h4⟩ := OwS.take i h (by simpa using e)
    exact ⟨v, B, A', by simpa using h1, h2, .sn h3, h4⟩
  | _, _, _, i + 1, _, .sv (A := A) h r, e => by
    obtain ⟨v, B, A', h1, h2, h3, h4⟩ := OwS.take i r (by simpa using e)
    refine ⟨v, B, A ++ A', by simpa using h1, h2, .sv h h3, ?_⟩
    refine (List.Perm.append_left A h4).trans ?_
    rw [← List.append_assoc, ← List.append_assoc]
    exact List.Perm.append_right A' List.perm_append_comm
/-- a slot is forgotten -/
theorem OwS.drop : ∀ {σ ts A} (i : Nat), OwS K H M σ ts A → ∃ A', OwS K H M σ (ts.set i none) A' ∧ (∃ B, A.Perm (B ++ A'))
  | _, _, _, _, .nil => ⟨[], .nil, [], List.Perm.refl _⟩
  | _, _, _, 0, .sn h => ⟨_, .sn h, [], List.Perm.refl _⟩
  | _, _, _, 0, .sv h r => ⟨_, .sn r, _, List.Perm.refl _⟩
  | _, _, _, i + 1, .sn h => by
    obtain ⟨A', h3, B, h4⟩ := OwS.drop i h
    exact ⟨A', .sn h3, B, h4⟩
  | _, _, _, i + 1, .sv (A := A) h r => by
    obtain ⟨A', h3, B, h4⟩ := OwS.drop i r
    refine ⟨A ++ A', .sv h h3, B, ?_⟩
    refine (List.Perm.append_left A h4).trans ?_
    rw [← List.append_assoc, ← List.append_assoc]
    exact List.Perm.append_right A' List.perm_append_comm
/-- an empty slot is filled -/
theorem OwS.put : ∀ {σ ts A} (i : Nat) {c v B}, OwS K H M σ ts A → ts[i]? = some none → Ow K H M c.2 v c.1 B → ∃ A', OwS K H M (σ.set i (some v)) (ts.set i (some c)) A' ∧ A'.Perm (B ++ A)
  | _, _, _, _, _, _, _, .nil, e, _ => by simp at e
  | _, _, _, 0, _, _, _, .sn h, e, q => ⟨_, .sv q h, List.Perm.refl _⟩
  | _, _, _, 0, _, _, _, .sv h r, e, _ => by simp at e
  | _, _, _, i + 1, _, _, _, .sn h, e, q => by
    obtain ⟨A', h1, h2⟩ := OwS.put i h (by simpa using e) q
    exact ⟨A', .sn h1, h2⟩
  | _, _, _, i + 1, _, _, B, .sv (A := A) h r, e, q => by
    obtain ⟨A', h1, h2⟩ := OwS.put i r (by simpa using e) q
    refine ⟨A ++ A', .sv h h1, ?_⟩
    refine (List.Perm.append_left A h2).trans ?_
    rw [← List.append_assoc, ← List.append_assoc]
    exact List.Perm.append_right _ List.perm_append_comm
/-- .. with the same value: the frame's slots are as they were -/
theorem OwS.back : ∀ {σ ts A} (i : Nat) {c v B}, OwS K H M σ ts A → ts[i]? = some none → σ[i]? = some (some v) → Ow K H M c.2 v c.1 B → ∃ A', OwS K H M σ (ts.set i (some c)) A' ∧ A'.Perm (B ++ A)
  | σ, ts, A, i, c, v, B, h, e, ev, q => by
    obtain ⟨A', h1, h2⟩ := OwS.put i h e q
    have e2 : σ.set i (some v) = σ := by
      apply List.ext_getElem?
      intro j
      by_cases hj : i = j
      · subst hj
        obtain ⟨hl, _⟩ := List.getElem?_eq_some_iff.mp ev
        rw [List.getElem?_set_self hl, ev]
      · rw [List.getElem?_set_ne hj]
    rw [e2] at h1
    exact ⟨A', h1, h2⟩
end

/-- F: what those around own; A: what this state owns -/
structure Core (K : PySem.W.Frag) (F : Addr → Prop) (ts : TSt) (σ : St) (H : Hp) (A : List Addr) : Prop where
  nd : A.Nodup
  dj : ∀ a ∈ A, ¬ F a
  fa : ∀ a, F a → ∃ xs, H a = some (.lst xs)
  rp : ∃ A₀, A₀.Perm A ∧ OwS K H (fun a => F a ∨ a ∈ A) σ ts A₀
/-- from (A, H) to (A', H') nothing but A is changed, what is owned was owned or is new -/
structure Chg (A : List Addr) (H : Hp) (A' : List Addr) (H' : Hp) : Prop where
  ext : ∀ b o, H b = some o → b ∉ A → H' b = some o
  sub : ∀ a ∈ A', a ∈ A ∨ H a = none
section
variable {K : PySem.W.Frag} {F F' : Addr → Prop} {ts ts' : TSt} {σ : St} {H H' H'' : Hp} {A A' A'' B : List Addr}
theorem Chg.refl : Chg A H A H := ⟨fun _ _ e _ => e, fun _ h => .inl h⟩
theorem Chg.trans (a : Chg A H A' H') (b : Chg A' H' A'' H'') : Chg A H A'' H'' := by
  refine ⟨fun x o e n => ?_, fun x hx => ?_⟩
  · refine b.ext x o (a.ext x o e n) fun h => ?_
    rcases a.sub x h with h | h
    · exact n h
    · rw [h] at e; cases e
  · rcases b.sub x hx with h | h
    · exact a.sub x h
    · by_cases hn : x ∈ A
      · exact .inl hn
      · refine .inr ?_
        cases e : H x with
        | none => rfl
        | some o => rw [a.ext x o e hn] at h; cases h
theorem Chg.less (a : Chg A H A' H') (h : ∀ x ∈ A'', x ∈ A') : Chg A H A'' H' := ⟨a.ext, fun x hx => a.sub x (h x hx)⟩
theorem Chg.frame (a : Chg A H A' H') : Chg (B ++ A) H (B ++ A') H' :=
  ⟨fun b o e n => a.ext b o e fun h => n (List.mem_append_right _ h), fun x hx => (List.mem_append.mp hx).elim (fun h => .inl (List.mem_append_left _ h)) fun h => (a.sub x h).imp (List.mem_append_right _) id⟩
/-- what is shared stays shared -/
theorem Chg.stay (a : Chg A H A' H') (fa : ∀ x, F x → ∃ xs, H x = some (.lst xs)) : Stay H (fun x => F x ∨ x ∈ A) H' (fun x => F x ∨ x ∈ A') := fun b o e n => by
  refine ⟨a.ext b o e fun h => n (.inr h), fun h => ?_⟩
  rcases h with h | h
  · exact n (.inl h)
  · rcases a.sub b h with h | h
    · exact n (.inr h)
    · rw [h] at e; cases e
theorem Core.len (c : Core K F ts σ H A) : σ.length = ts.length := by
  obtain ⟨_, _, h⟩ := c.rp
  exact h.len
theorem Core.there (c : Core K F ts σ H A) : ∀ a ∈ A, ∃ xs, H a = some (.lst xs) := fun a ha => by
  obtain ⟨A₀, p, h⟩ := c.rp
  exact h.there a (p.mem_iff.mpr ha)
theorem Core.fa' (c : Core K F ts σ H A) (g : Chg A H A' H') : ∀ a, F a → ∃ xs, H' a = some (.lst xs) := fun a ha => by
  obtain ⟨xs, e⟩ := c.fa a ha
  exact ⟨xs, g.ext a _ e fun h => c.dj a h ha⟩
/-- B was taken apart, and is given up -/
theorem Core.unpend (c : Core K (fun a => F a ∨ a ∈ B) ts σ H A) : Core K F ts σ H A := by
  obtain ⟨A₀, p, h⟩ := c.rp
  exact ⟨c.nd, fun a ha f => c.dj a ha (.inl f), fun a f => c.fa a (.inl f), A₀, p, h.stay (stay_less fun a x => x.elim (fun f => .inl (.inl f)) .inr) fun _ _ => rfl⟩
/-- a slot read -/
theorem Core.take {i : Nat} {c : TVal} (k : Core K F ts σ H A) (e : ts[i]? = some (some c)) : ∃ v B A', σ[i]? = some (some v) ∧ Ow K H (fun a => F a ∨ a ∈ A) c.2 v c.1 B ∧ A.Perm (B ++ A') ∧
    Core K (fun a => F a ∨ a ∈ B) (ts.set i none) σ H A' ∧ B.Nodup ∧ (∀ a ∈ B, ¬ F a) := by
  obtain ⟨A₀, p, h⟩ := k.rp
  obtain ⟨v, B, A', h1, h2, h3, h4⟩ := h.take i e
  have hp : A.Perm (B ++ A') := p.symm.trans h4
  have nd := hp.nodup_iff.mp k.nd
  obtain ⟨n1, n2, n3⟩ := List.nodup_append.mp nd
  refine ⟨v, B, A', h1, h2, hp, ⟨n2, fun a ha f => ?_, fun a f => ?_, A', List.Perm.refl _, ?_⟩, n1, fun a ha => k.dj a (hp.mem_iff.mpr (List.mem_append_left _ ha))⟩
  · rcases f with f | f
    · exact k.dj a (hp.mem_iff.mpr (List.mem_append_right _ ha)) f
    · exact n3 a f a ha rfl
  · rcases f with f | f
    · exact k.fa a f
    · exact k.there a (hp.mem_iff.mpr (List.mem_append_left _ f))
  · refine h3.stay (fun b o e n => ⟨e, fun x => n ?_⟩) fun _ _ => rfl
    rcases x with (x | x) | x
    · exact .inl x
    · exact .inr (hp.mem_iff.mpr (List.mem_append_left _ x))
    · exact .inr (hp.mem_iff.mpr (List.mem_append_right _ x))
theorem Core.peek {i : Nat} {c : TVal} (k : Core K F ts σ H A) (e : ts[i]? = some (some c)) : ∃ v B, σ[i]? = some (some v) ∧ Ow K H (fun a => F a ∨ a ∈ A) c.2 v c.1 B ∧ ∀ a ∈ B, a ∈ A := by
  obtain ⟨v, B, A', h1, h2, hp, _⟩ := k.take e
  exact ⟨v, B, h1, h2, fun a ha => hp.mem_iff.mpr (List.mem_append_left _ ha)⟩
/-- a slot set; what is put stands apart -/
theorem Core.put {i : Nat} {c : TVal} {v : V} (k : Core K (fun a => F a ∨ a ∈ B) ts σ H A) (nb : B.Nodup) (fb : ∀ a ∈ B, ¬ F a) (hi : i < ts.length) (q : Ow K H (fun a => (F a ∨ a ∈ B) ∨ a ∈ A) c.2 v c.1 B) :
    ∃ A', Core K F (ts.set i (some c)) (σ.set i (some v)) H A' ∧ (∀ a ∈ A', a ∈ A ∨ a ∈ B) := by
  obtain ⟨A₀, p, h⟩ := k.rp
  obtain ⟨A1, h1, B1, p1⟩ := h.drop i
  have hp : A.Perm (B1 ++ A1) := p.symm.trans p1
  have e : (ts.set i none)[i]? = some none := by rw [List.getElem?_set_self hi]
  have sub : ∀ a ∈ A1, a ∈ A := fun a ha => hp.mem_iff.mpr (List.mem_append_right _ ha)
  have n1 : A1.Nodup := (List.nodup_append.mp (hp.nodup_iff.mp k.nd)).2.1
  have nd : (B ++ A1).Nodup := List.nodup_append.mpr ⟨nb, n1, fun a ha b hb e => k.dj b (sub b hb) (.inr (e ▸ ha))⟩
  have s : Stay H (fun a => (F a ∨ a ∈ B) ∨ a ∈ A) H (fun a => F a ∨ a ∈ B ++ A1) := stay_less fun a x => by
    rcases x with x | x
    · exact .inl (.inl x)
    · exact (List.mem_append.mp x).elim (fun y => .inl (.inr y)) fun y => .inr (sub a y)
  obtain ⟨A2, h2, p2⟩ := (h1.stay s fun _ _ => rfl).put i e (Ow.stay s _ _ _ _ q fun _ _ => rfl)
  rw [List.set_set] at h2
  refine ⟨B ++ A1, ⟨nd, fun a ha => ?_, fun a f => k.fa a (.inl f), A2, p2, h2⟩, fun a ha => (List.mem_append.mp ha).elim .inr fun y => .inl (sub a y)⟩
  exact (List.mem_append.mp ha).elim (fb a) fun y f => k.dj a (sub a y) (.inl f)
/-- pending: frozen -/
theorem Chg.rp {v d} (k : Core K F ts σ H A) (g : Chg A H A' H') (r : Rp K H (fun a => F a ∨ a ∈ A) v d) : Rp K H' (fun a => F a ∨ a ∈ A') v d := Rp.stay (g.stay k.fa) _ _ r
/-- pending: owned -/
theorem Chg.ow {m v d} (k : Core K (fun a => F a ∨ a ∈ B) ts σ H A) (g : Chg A H A' H') (r : Ow K H (fun a => (F a ∨ a ∈ B) ∨ a ∈ A) m v d B) : Ow K H' (fun a => (F a ∨ a ∈ B) ∨ a ∈ A') m v d B :=
  Ow.stay (g.stay k.fa) _ _ _ _ r fun a ha => by
    obtain ⟨xs, e⟩ := k.fa a (.inr ha)
    rw [e, g.ext a _ e fun h => k.dj a h (.inr ha)]
end
end TV
end
set_option Elab.async false
set_option linter.all false
set_option maxRecDepth 100000
/-! Part 2: judgements over trees; names, operators, comparisons, tests. -/
section
namespace TV
open PySem PySem.Spec L2

abbrev WE := TSt → (TVal → TSt → Prop) → Prop
abbrev WT := TSt → (Bool → TSt → Prop) → Prop
/-- an operand: a slot (read when the operation is done), or a tree -/
inductive Cap where | slot (i : Nat) | val (d : PyData)
abbrev WO := TSt → (Cap → TSt → Prop) → Prop
abbrev WA := TSt → (List Cap → TSt → Prop) → Prop
/-- an operand as it is read: its tree; whether its items are shared -/
abbrev Opn := PyData × Bool
def Mo {α β : Type} (W : α → (β → α → Prop) → Prop) : Prop := ∀ ts Q Q', (∀ c t, Q c t → Q' c t) → W ts Q → W ts Q'
def CapR (K : PySem.W.Frag) (H : Hp) (M : Addr → Prop) (σ : St) : Cap → V → Prop
  | .slot i, v => σ[i]? = some (some v)
  | .val d, v => Rp K H M v d
def CapsR (K : PySem.W.Frag) (H : Hp) (M : Addr → Prop) (σ : St) : List Cap → List V → Prop
  | [], [] => True
  | c :: cs, v :: vs => CapR K H M σ c v ∧ CapsR K H M σ cs vs
  | _, _ => False
def resP (ts : TSt) (c : Cap) (k : Opn → Prop) : Prop :=
  match c with
  | .val d => k (d, true)
  | .slot i => match ts[i]? with
    | some (some (d, m)) => k (d, decide (m ≠ .full) || flatK d)
    | _ => False
def resPs (ts : TSt) : List Cap → (List Opn → Prop) → Prop
  | [], k => k []
  | c :: cs, k => resP ts c fun o => resPs ts cs fun os => k (o :: os)
/-- readable, its items shared -/
def RdK (K : PySem.W.Frag) (H : Hp) (M : Addr → Prop) (v : V) : PyData → Prop
  | .list ds => ∃ a vs, v = .ref a ∧ H a = some (.lst vs) ∧ RpAll K H M vs ds
  | .tuple ds => ∃ a vs, v = .ref a ∧ SqT K H a vs ∧ RpAll K H M vs ds
  | d => Rp K H M v d
def OpnR (K : PySem.W.Frag) (H : Hp) (M : Addr → Prop) (o : Opn) (v : V) : Prop := Dp K H v o.1 ∧ (o.2 = true → RdK K H M v o.1)
def OpnsR (K : PySem.W.Frag) (H : Hp) (M : Addr → Prop) : List Opn → List V → Prop
  | [], [] => True
  | c :: cs, v :: vs => OpnR K H M c v ∧ OpnsR K H M cs vs
  | _, _ => False
structure PureO (K : PySem.W.Frag) (H : Hp) (M : Addr → Prop) (c : TVal) (v : V) (H' : Hp) (B : List Addr) : Prop where
  same : ∀ b o, H b = some o → H' b = some o
  nd : B.Nodup
  new : ∀ a ∈ B, H a = none
  ow : Ow K H' (fun a => M a ∨ a ∈ B) c.2 v c.1 B
/-- what a pure operation hands back -/
def PureQ (K : PySem.W.Frag) (H : Hp) (M : Addr → Prop) (Q : VK) (c : TVal) : Prop := ∀ v H' B, PureO K H M c v H' B → Q v H'

def contE (K : PySem.W.Frag) (F : Addr → Prop) (σ : St) (H : Hp) (A : List Addr) (Q : VK) (c : TVal) (ts' : TSt) : Prop :=
  ∀ v H' A' B, Core K (fun a => F a ∨ a ∈ B) ts' σ H' A' → B.Nodup → (∀ a ∈ B, ¬ F a) → Chg A H (A' ++ B) H' → Ow K H' (fun a => (F a ∨ a ∈ B) ∨ a ∈ A') c.2 v c.1 B → Q v H'
def contO (K : PySem.W.Frag) (F : Addr → Prop) (σ : St) (H : Hp) (A : List Addr) (Q : VK) (c : Cap) (ts' : TSt) : Prop :=
  ∀ v H' A', Core K F ts' σ H' A' → Chg A H A' H' → CapR K H' (fun a => F a ∨ a ∈ A') σ c v → Q v H'
def contA (K : PySem.W.Frag) (F : Addr → Prop) (σ : St) (H : Hp) (A : List Addr) (Q : List V → Hp → Prop) (c : List Cap) (ts' : TSt) : Prop :=
  ∀ v H' A', Core K F ts' σ H' A' → Chg A H A' H' → CapsR K H' (fun a => F a ∨ a ∈ A') σ c v → Q v H'
def contT (K : PySem.W.Frag) (F : Addr → Prop) (σ : St) (H : Hp) (A : List Addr) (Q : Bool → Hp → Prop) (b : Bool) (ts' : TSt) : Prop :=
  ∀ H' A', Core K F ts' σ H' A' → Chg A H A' H' → Q b H'
def rdE (K : PySem.W.Frag) (F : Addr → Prop) (W : WE) : TE := fun σ H Q => ∃ ts A, Core K F ts σ H A ∧ W ts (contE K F σ H A Q)
def rdO (K : PySem.W.Frag) (F : Addr → Prop) (W : WO) : TE := fun σ H Q => ∃ ts A, Core K F ts σ H A ∧ W ts (contO K F σ H A Q)
def rdA (K : PySem.W.Frag) (F : Addr → Prop) (W : WA) : TA := fun σ H Q => ∃ ts A, Core K F ts σ H A ∧ W ts (contA K F σ H A Q)
def rdT (K : PySem.W.Frag) (F : Addr → Prop) (W : WT) : TT := fun σ H Q => ∃ ts A, Core K F ts σ H A ∧ W ts (contT K F σ H A Q)
structure SE (X : Cx) (e : Expr) (W : WE) : Prop where
  mo : Mo W
  run : ∀ F, PE X e (rdE X.K F W)
structure SO (X : Cx) (e : Expr) (W : WO) : Prop where
  mo : Mo W
  run : ∀ F, PE X e (rdO X.K F W)
structure SA (X : Cx) (es : List Expr) (W : WA) : Prop where
  mo : Mo W
  run : ∀ F, PA X es (rdA X.K F W)
structure ST (X : Cx) (e : Expr) (W : WT) : Prop where
  mo : Mo W
  run : ∀ F, PT X e (rdT X.K F W)
/-- a test whatever its 'whole' is -/
structure SW (X : Cx) (e : Expr) (W : WT) : Prop where
  mo : Mo W
  run : ∀ F, PW X e (rdT X.K F W)

section
variable {X : Cx} {e a b : Expr} {es : List Expr} {pos : Pos}
theorem pe_weak {t t' : TE} (h : PE X e t) (k : ∀ σ H Q, t' σ H Q → t σ H Q) : PE X e t' := ⟨fun pins s σ H Q I q => h.run pins s σ H Q I (k σ H Q q)⟩
theorem pt_weak {t t' : TT} (h : PT X e t) (k : ∀ σ H Q, t' σ H Q → t σ H Q) : PT X e t' := ⟨fun pins s σ H Q I q => h.run pins s σ H Q I (k σ H Q q)⟩
theorem pw_weak {t t' : TT} (h : PW X e t) (k : ∀ σ H Q, t' σ H Q → t σ H Q) : PW X e t' := ⟨fun w pins s σ H Q I q => h.run w pins s σ H Q I (k σ H Q q)⟩
theorem pa_weak {t t' : TA} (h : PA X es t) (k : ∀ σ H Q, t' σ H Q → t σ H Q) : PA X es t' := ⟨fun pos pins s σ H Q I q => h.run pos pins s σ H Q I (k σ H Q q)⟩
end

section
variable {K : PySem.W.Frag} {F : Addr → Prop} {ts ts' : TSt} {σ : St} {H H' : Hp} {A A' B : List Addr}
theorem rdK_of {M : Addr → Prop} {v d} (h : Rp K H M v d) : RdK K H M v d := by
  cases h with
  | lst h r => exact ⟨_, _, rfl, h.1, r⟩
  | tup h r => exact ⟨_, _, rfl, h.sq, r⟩
  | non => exact .non
  | bl b => exact .bl b
  | int i => exact .int i
  | str x => exact .str x
theorem rdK_ow {M : Addr → Prop} {m v d A} (h : Ow K H M m v d A) (hm : (decide (m ≠ .full) || flatK d) = true) : RdK K H M v d := by
  cases h with
  | fz h => exact rdK_of h
  | sc _ h => exact rdK_of h
  | topL h r => exact ⟨_, _, rfl, h, r⟩
  | topT h => exact rdK_of h
  | fullL h r =>
    have e := (OwAll.flat _ _ _ r (by simpa [flatK] using hm)).1
    exact ⟨_, _, rfl, h, e⟩
  | fullT h r =>
    have e := (OwAll.flat _ _ _ r (by simpa [flatK] using hm)).1
    exact ⟨_, _, rfl, h.sq, e⟩
/-- an operand stays through what follows -/
theorem CapR.keep {c v} (k : Core K F ts σ H A) (g : Chg A H A' H') (r : CapR K H (fun a => F a ∨ a ∈ A) σ c v) : CapR K H' (fun a => F a ∨ a ∈ A') σ c v := by
  cases c with
  | slot i => exact r
  | val d => exact g.rp k r
theorem CapsR.keep : ∀ {cs vs}, Core K F ts σ H A → Chg A H A' H' → CapsR K H (fun a => F a ∨ a ∈ A) σ cs vs → CapsR K H' (fun a => F a ∨ a ∈ A') σ cs vs
  | [], [], _, _, _ => trivial
  | _ :: _, _ :: _, k, g, r => ⟨r.1.keep k g, CapsR.keep k g r.2⟩
  | [], _ :: _, _, _, r => r.elim
  | _ :: _, [], _, _, r => r.elim
/-- .. and is read -/
theorem cap_res {c v} {k : Opn → Prop} (h : Core K F ts σ H A) (r : CapR K H (fun a => F a ∨ a ∈ A) σ c v) (q : resP ts c k) : ∃ o, OpnR K H (fun a => F a ∨ a ∈ A) o v ∧ k o := by
  cases c with
  | val d => exact ⟨(d, true), ⟨Rp.dp _ _ r, fun _ => rdK_of r⟩, q⟩
  | slot i =>
    unfold resP at q
    dsimp only at q
    split at q
    · rename_i d m e
      obtain ⟨v', B, h1, h2, h3⟩ := h.peek e
      rw [show σ[i]? = some (some v) from r] at h1
      cases h1
      exact ⟨_, ⟨h2.dp, fun hm => rdK_ow h2 hm⟩, q⟩
    · exact q.elim
theorem caps_res : ∀ {cs vs} {k : List Opn → Prop}, Core K F ts σ H A → CapsR K H (fun a => F a ∨ a ∈ A) σ cs vs → resPs ts cs k → ∃ os, OpnsR K H (fun a => F a ∨ a ∈ A) os vs ∧ k os
  | [], [], _, _, _, q => ⟨[], trivial, q⟩
  | _ :: _, _ :: _, _, h, r, q => by
    obtain ⟨o, h1, q⟩ := cap_res h r.1 q
    obtain ⟨os, h2, q⟩ := caps_res h r.2 q
    exact ⟨o :: os, ⟨h1, h2⟩, q⟩
  | [], _ :: _, _, _, r, _ => r.elim
  | _ :: _, [], _, _, r, _ => r.elim
theorem resP_mo {c : Cap} {k k' : Opn → Prop} (h : ∀ o, k o → k' o) : resP ts c k → resP ts c k' := by
  unfold resP
  cases c with
  | val d => exact h _
  | slot i =>
    dsimp only
    split
    · exact h _
    · exact id
theorem resPs_mo : ∀ {cs : List Cap} {k k' : List Opn → Prop}, (∀ o, k o → k' o) → resPs ts cs k → resPs ts cs k'
  | [], _, _, h => h _
  | _ :: _, _, _, h => resP_mo fun _ => resPs_mo fun _ => h _
/-- behind a pure operation the state is as it was -/
theorem pure_core {c v} {H₀ A₀} (h : Core K F ts σ H A) (g : Chg A₀ H₀ A H) (p : PureO K H (fun a => F a ∨ a ∈ A) c v H' B) : Core K (fun a => F a ∨ a ∈ B) ts σ H' A ∧ (∀ a ∈ B, ¬ F a) ∧ Chg A₀ H₀ (A ++ B) H' ∧ Ow K H' (fun a => (F a ∨ a ∈ B) ∨ a ∈ A) c.2 v c.1 B := by
  have nf : ∀ a ∈ B, ¬ F a := fun a ha f => by
    obtain ⟨xs, e⟩ := h.fa a f
    rw [p.new a ha] at e; cases e
  have na : ∀ a ∈ A, a ∉ B := fun a ha hb => by
    obtain ⟨xs, e⟩ := h.there a ha
    rw [p.new a hb] at e; cases e
  have g1 : Chg A H (A ++ B) H' := ⟨fun b o e _ => p.same b o e, fun x hx => (List.mem_append.mp hx).imp id (p.new x)⟩
  refine ⟨⟨h.nd, fun a ha f => f.elim (h.dj a ha) (na a ha), fun a f => ?_, ?_⟩, nf, g.trans g1, ?_⟩
  · rcases f with f | f
    · obtain ⟨xs, e⟩ := h.fa a f
      exact ⟨xs, p.same a _ e⟩
    · exact Ow.there _ _ _ _ p.ow a f
  · obtain ⟨A1, q1, q2⟩ := h.rp
    refine ⟨A1, q1, q2.stay (fun b o e n => ⟨p.same b o e, fun x => ?_⟩) fun a ha => ?_⟩
    · rcases x with (x | x) | x
      · exact n (.inl x)
      · rw [p.new b x] at e; cases e
      · exact n (.inr x)
    · obtain ⟨xs, e⟩ := q2.there a ha
      rw [e, p.same a _ e]
  · exact Ow.stay (stay_less fun a x => by
      rcases x with (x | x) | x
      · exact .inl (.inl x)
      · exact .inr x
      · exact .inl (.inr x)) _ _ _ _ p.ow fun _ _ => rfl
theorem pure_contE {H₀ A₀ Q} (h : Core K F ts σ H A) (g : Chg A₀ H₀ A H) {c} (q : contE K F σ H₀ A₀ Q c ts) : PureQ K H (fun a => F a ∨ a ∈ A) Q c := fun v H' B p => by
  obtain ⟨h1, h2, h3, h4⟩ := pure_core h g p
  exact q v H' A B h1 p.nd h2 h3 h4
/-- a value that is shared or has no parts -/
theorem PureO.of_rp {M : Addr → Prop} {d v} (r : Rp K H M v d) : PureO K H M (d, .fz) v H [] :=
  ⟨fun _ _ e => e, List.nodup_nil, fun _ h => absurd h List.not_mem_nil, .fz (Rp.stay (stay_less fun a x => x.elim id fun z => absurd z List.not_mem_nil) _ _ r)⟩
theorem PureO.of_sc {M : Addr → Prop} {m d v} (e : scalar d = true) (r : Rp K H M v d) : PureO K H M (d, m) v H [] :=
  ⟨fun _ _ e => e, List.nodup_nil, fun _ h => absurd h List.not_mem_nil, .sc e (Rp.stay (stay_less fun a x => x.elim id fun z => absurd z List.not_mem_nil) _ _ r)⟩
end

theorem Core.lists {K : PySem.W.Frag} {F : Addr → Prop} {ts : TSt} {σ : St} {H : Hp} {A : List Addr} (k : Core K F ts σ H A) : ∀ a, (F a ∨ a ∈ A) → ∃ xs, H a = some (.lst xs) := fun a h => h.elim (k.fa a) (k.there a)
/-! ### names and constants -/
section
variable {X : Cx} {e a b : Expr} {es : List Expr} {pos : Pos}
/-- a name as an operand -/
def oV (i : Nat) : WO := fun ts Q => (∃ c, ts[i]? = some (some c)) ∧ Q (.slot i) ts
theorem so_v (i : Nat) (h : PE X e (tVar i)) : SO X e (oV i) := by
  refine ⟨fun ts Q Q' k h => ⟨h.1, k _ _ h.2⟩, fun F => pe_weak h ?_⟩
  rintro σ H Q ⟨ts, A, c, ⟨cc, e⟩, q⟩
  obtain ⟨v, B, h1, _, _⟩ := c.peek e
  exact ⟨v, h1, q v H A c Chg.refl h1⟩
/-- any expression as an operand: its value is shared from then on -/
def oE (W : WE) : WO := fun ts Q => W ts fun c ts1 => Q (.val c.1) ts1
theorem contO_E {K F σ H A Q c ts'} (h : contO K F σ H A Q (.val c.1) ts') : contE K F σ H A Q c ts' := fun v H' A' B k nb fb g w => by
  refine h v H' A' k.unpend (g.less fun x hx => List.mem_append_left _ hx) ?_
  refine Ow.give _ _ _ _ w (fun a x => x.elim (fun f => .inl (.inl f)) .inr) fun a ha x => ?_
  exact x.elim (fb a ha) fun y => k.dj a y (.inr ha)
theorem so_e {W} (h : SE X e W) : SO X e (oE W) :=
  ⟨fun ts Q Q' k => h.mo _ _ _ fun _ _ => k _ _, fun F => pe_weak (h.run F) fun σ H Q ⟨ts, A, c, q⟩ => ⟨ts, A, c, h.mo _ _ _ (fun _ _ => contO_E) q⟩⟩
/-- a constant -/
def eC (d : PyData) : WE := fun ts Q => Q (d, .full) ts
theorem se_c {d : PyData} {v : V} (h : PE X e (tC v)) (s : scalar d = true) (r : ∀ K H M, Rp K H M v d) : SE X e (eC d) :=
  ⟨fun ts Q Q' k => k _ _, fun F => pe_weak h fun σ H Q ⟨ts, A, c, q⟩ => pure_contE c Chg.refl q v H [] (.of_sc s (r _ _ _))⟩
theorem se_int {i j} : SE X (.Constant (.int i) j pos) (eC (.int i)) := se_c pe_int rfl fun _ _ _ => .int i
theorem se_bl {b j} : SE X (.Constant (.bool b) j pos) (eC (.bool b)) := se_c pe_bl rfl fun _ _ _ => .bl b
theorem se_non {j} : SE X (.Constant .none j pos) (eC .none) := se_c pe_non rfl fun _ _ _ => .non
theorem se_str {x j} : SE X (.Constant (.str x) j pos) (eC (.str x)) := se_c pe_str rfl fun _ _ _ => .str x
/-- a constant of the module that is a tree of the text -/
def eG (d : PyData) : WE := fun ts Q => Q (d, .fz) ts
theorem se_g {d : PyData} {v : V} (h : PE X e (tC v)) (r : ∀ H M, Rp X.K H M v d) : SE X e (eG d) :=
  ⟨fun ts Q Q' k => k _ _, fun F => pe_weak h fun σ H Q ⟨ts, A, c, q⟩ => pure_contE c Chg.refl q v H [] (.of_rp (r _ _))⟩
/-- a name as a value: it is shared from then on -/
def eV (i : Nat) : WE := fun ts Q => ∃ c, ts[i]? = some (some c) ∧ Q (c.1, .fz) (ts.set i (some (c.1, .fz)))
theorem Core.share {K F ts σ H A} {i : Nat} {c : TVal} (k : Core K F ts σ H A) (e : ts[i]? = some (some c)) : ∃ v A', σ[i]? = some (some v) ∧ Core K F (ts.set i (some (c.1, .fz))) σ H A' ∧ (∀ a ∈ A', a ∈ A) ∧ Rp K H (fun a => F a ∨ a ∈ A') v c.1 := by
  obtain ⟨v, B, A', h1, h2, hp, k2, nb, fb⟩ := k.take e
  have hl : i < ts.length := (List.getElem?_eq_some_iff.mp e).1
  have r : Rp K H (fun a => F a ∨ a ∈ A') v c.1 := by
    refine Ow.give _ _ _ _ h2 (fun a x => x.imp id fun y => hp.mem_iff.mpr (List.mem_append_right _ y)) fun a ha x => ?_
    exact x.elim (fb a ha) fun y => k2.dj a y (.inr ha)
  have k3 := k2.unpend
  have k4 : Core K (fun a => F a ∨ a ∈ ([] : List Addr)) (ts.set i none) σ H A' := by
    have e0 : (fun a => F a ∨ a ∈ ([] : List Addr)) = F := by funext a; simp
    rw [e0]; exact k3
  have e0 : (fun a => (F a ∨ a ∈ ([] : List Addr)) ∨ a ∈ A') = (fun a => F a ∨ a ∈ A') := by funext a; simp
  obtain ⟨A₀, p, w⟩ := k3.rp
  obtain ⟨A2, w2, p2⟩ := w.back (c := (c.1, .fz)) (B := []) i (by rw [List.getElem?_set_self hl]) h1 (.fz r)
  rw [List.set_set] at w2
  exact ⟨v, A', h1, ⟨k3.nd, k3.dj, k3.fa, A2, p2.trans p, w2⟩, fun a ha => hp.mem_iff.mpr (List.mem_append_right _ ha), r⟩
theorem se_v (i : Nat) (h : PE X e (tVar i)) : SE X e (eV i) := by
  refine ⟨fun ts Q Q' k ⟨c, e, q⟩ => ⟨c, e, k _ _ q⟩, fun F => pe_weak h ?_⟩
  rintro σ H Q ⟨ts, A, k, c, e, q⟩
  obtain ⟨v, A', h1, k2, sub, r⟩ := k.share e
  exact ⟨v, h1, pure_contE k2 (Chg.refl.less sub) q v H [] (.of_rp r)⟩
/-- the last use of a name: what it owns goes along -/
def eMv (i : Nat) : WE := fun ts Q => ∃ c, ts[i]? = some (some c) ∧ Q c (ts.set i none)
theorem se_mv (i : Nat) (h : PE X e (tVar i)) : SE X e (eMv i) := by
  refine ⟨fun ts Q Q' k ⟨c, e, q⟩ => ⟨c, e, k _ _ q⟩, fun F => pe_weak h ?_⟩
  rintro σ H Q ⟨ts, A, k, c, e, q⟩
  obtain ⟨v, B, A', h1, h2, hp, k2, nb, fb⟩ := k.take e
  refine ⟨v, h1, q v H A' B k2 nb fb ⟨fun _ _ e _ => e, fun x hx => .inl ?_⟩ ?_⟩
  · exact hp.mem_iff.mpr ((List.mem_append.mp hx).elim (fun y => List.mem_append_right _ y) fun y => List.mem_append_left _ y)
  · refine Ow.stay (stay_less fun a x => ?_) _ _ _ _ h2 fun _ _ => rfl
    rcases x with (x | x) | x
    · exact .inl x
    · exact .inr (hp.mem_iff.mpr (List.mem_append_left _ x))
    · exact .inr (hp.mem_iff.mpr (List.mem_append_right _ x))
end

/-! ### operations -/
abbrev F1 := Opn → (TVal → Prop) → Prop
abbrev F2 := Opn → Opn → (TVal → Prop) → Prop
abbrev FN := List Opn → (TVal → Prop) → Prop
def Mo1 (f : F1) : Prop := ∀ o Q Q', (∀ c, Q c → Q' c) → f o Q → f o Q'
def Mo2 (f : F2) : Prop := ∀ o p Q Q', (∀ c, Q c → Q' c) → f o p Q → f o p Q'
def MoN (f : FN) : Prop := ∀ o Q Q', (∀ c, Q c → Q' c) → f o Q → f o Q'
structure Sd1 (K : PySem.W.Frag) (f : F1) (r : V → Hp → VK → Prop) : Prop where
  mo : Mo1 f
  run : ∀ H M x o Q, (∀ a, M a → ∃ xs, H a = some (.lst xs)) → OpnR K H M o x → f o (PureQ K H M Q) → r x H Q
structure Sd2 (K : PySem.W.Frag) (f : F2) (r : R2) : Prop where
  mo : Mo2 f
  run : ∀ H M x y o p Q, (∀ a, M a → ∃ xs, H a = some (.lst xs)) → OpnR K H M o x → OpnR K H M p y → f o p (PureQ K H M Q) → r x y H Q
structure SdN (K : PySem.W.Frag) (f : FN) (r : List V → Hp → VK → Prop) : Prop where
  mo : MoN f
  run : ∀ H M xs os Q, (∀ a, M a → ∃ xs, H a = some (.lst xs)) → OpnsR K H M os xs → f os (PureQ K H M Q) → r xs H Q
def e1 (f : F1) (wa : WO) : WE := fun ts Q => wa ts fun c ts1 => resP ts1 c fun o => f o fun r => Q r ts1
def e2 (f : F2) (wa wb : WO) : WE := fun ts Q => wa ts fun c ts1 => wb ts1 fun c2 ts2 => resP ts2 c fun o => resP ts2 c2 fun p => f o p fun r => Q r ts2
def eN (f : FN) (wa : WA) : WE := fun ts Q => wa ts fun cs ts1 => resPs ts1 cs fun os => f os fun r => Q r ts1
section
variable {X : Cx} {e a b c : Expr} {es : List Expr} {pos : Pos} {f : F1} {g : F2} {h : FN} {wa wb wc : WO} {W : WA}
theorem e1_mo (mf : Mo1 f) (ma : Mo wa) : Mo (e1 f wa) := fun _ _ _ k => ma _ _ _ fun _ _ => resP_mo fun _ => mf _ _ _ fun _ => k _ _
theorem e2_mo (mf : Mo2 g) (ma : Mo wa) (mb : Mo wb) : Mo (e2 g wa wb) := fun _ _ _ k => ma _ _ _ fun _ _ => mb _ _ _ fun _ _ => resP_mo fun _ => resP_mo fun _ => mf _ _ _ _ fun _ => k _ _
theorem eN_mo (mf : MoN h) (ma : Mo W) : Mo (eN h W) := fun _ _ _ k => ma _ _ _ fun _ _ => resPs_mo fun _ => mf _ _ _ fun _ => k _ _
theorem rd_e1 {K F σ H Q r} (s : Sd1 K f r) (ma : Mo wa) (h : rdE K F (e1 f wa) σ H Q) : rdO K F wa σ H fun x H1 => r x H1 Q := by
  obtain ⟨ts, A, k, q⟩ := h
  refine ⟨ts, A, k, ma _ _ _ (fun c ts1 q v H1 A1 k1 g1 r1 => ?_) q⟩
  obtain ⟨o, h1, q⟩ := cap_res k1 r1 q
  exact s.run _ _ _ _ _ k1.lists h1 (s.mo _ _ _ (fun c => pure_contE k1 g1) q)
theorem rd_e2 {K F σ H Q r} (s : Sd2 K g r) (ma : Mo wa) (mb : Mo wb) (h : rdE K F (e2 g wa wb) σ H Q) : rdO K F wa σ H fun x H1 => rdO K F wb σ H1 fun y H2 => r x y H2 Q := by
  obtain ⟨ts, A, k, q⟩ := h
  refine ⟨ts, A, k, ma _ _ _ (fun c ts1 q v H1 A1 k1 g1 r1 => ?_) q⟩
  refine ⟨ts1, A1, k1, mb _ _ _ (fun c2 ts2 q v2 H2 A2 k2 g2 r2 => ?_) q⟩
  obtain ⟨o, h1, q⟩ := cap_res k2 (r1.keep k1 g2) q
  obtain ⟨p, h2, q⟩ := cap_res k2 r2 q
  exact s.run _ _ _ _ _ _ _ k2.lists h1 h2 (s.mo _ _ _ _ (fun c => pure_contE k2 (g1.trans g2)) q)
theorem rd_eN {K F σ H Q r} (s : SdN K h r) (ma : Mo W) (hh : rdE K F (eN h W) σ H Q) : rdA K F W σ H fun x H1 => r x H1 Q := by
  obtain ⟨ts, A, k, q⟩ := hh
  refine ⟨ts, A, k, ma _ _ _ (fun c ts1 q v H1 A1 k1 g1 r1 => ?_) q⟩
  obtain ⟨o, h1, q⟩ := caps_res k1 r1 q
  exact s.run _ _ _ _ _ k1.lists h1 (s.mo _ _ _ (fun c => pure_contE k1 g1) q)
theorem se_op {op : Operator} {r : R2} (ho : OpR X (binaryOp op) r) (s : Sd2 X.K g r) (ha : SO X a wa) (hb : SO X b wb) : SE X (.BinOp a op b pos) (e2 g wa wb) :=
  ⟨e2_mo s.mo ha.mo hb.mo, fun F => pe_weak (pe_op ho (ha.run F) (hb.run F)) fun _ _ _ => rd_e2 s ha.mo hb.mo⟩
theorem se_un {op : UnaryOp} {r} (ho : UnR X (unaryOp op) r) (s : Sd1 X.K f r) (ha : SO X a wa) : SE X (.UnaryOp op a pos) (e1 f wa) :=
  ⟨e1_mo s.mo ha.mo, fun F => pe_weak (pe_un ho (ha.run F)) fun _ _ _ => rd_e1 s ha.mo⟩
theorem se_cmp {op : CmpOp} {r : R2} (ho : OpR X (compareOp op) r) (s : Sd2 X.K g r) (ha : SO X a wa) (hb : SO X b wb) (hm : behindInMarks op b = false) : SE X (.Compare a [op] [b] pos) (e2 g wa wb) :=
  ⟨e2_mo s.mo ha.mo hb.mo, fun F => pe_weak (pe_cmpR ho (ha.run F) (hb.run F) hm) fun _ _ _ => rd_e2 s ha.mo hb.mo⟩
/-! ### argument lists -/
def aNil : WA := fun ts Q => Q [] ts
def aCons (wa : WO) (W : WA) : WA := fun ts Q => wa ts fun c ts1 => W ts1 fun cs ts2 => Q (c :: cs) ts2
theorem sa_nil : SA X [] aNil := ⟨fun _ _ _ k => k _ _, fun F => pa_weak pa_nil fun σ H Q ⟨ts, A, k, q⟩ => q [] H A k Chg.refl trivial⟩
theorem sa_cons (ha : SO X e wa) (hb : SA X es W) (hs : starEach (e :: es) X.env = (false, eval e X.env) :: starEach es X.env := by rfl) : SA X (e :: es) (aCons wa W) := by
  refine ⟨fun _ _ _ k => ha.mo _ _ _ fun _ _ => hb.mo _ _ _ fun _ _ => k _ _, fun F => pa_weak (pa_cons (ha.run F) (hb.run F) hs) ?_⟩
  rintro σ H Q ⟨ts, A, k, q⟩
  refine ⟨ts, A, k, ha.mo _ _ _ (fun c ts1 q v H1 A1 k1 g1 r1 => ?_) q⟩
  refine ⟨ts1, A1, k1, hb.mo _ _ _ (fun c2 ts2 q v2 H2 A2 k2 g2 r2 => ?_) q⟩
  exact q _ H2 A2 k2 (g1.trans g2) ⟨r1.keep k1 g2, r2⟩
/-! ### subscripts, slices, built-in calls -/
theorem se_ix {r : R2} (hr : IxR X r) (s : Sd2 X.K g r) (ha : SO X a wa) (hb : SO X b wb) (hs : PlainIx b) : SE X (.Subscript a b pos) (e2 g wa wb) :=
  ⟨e2_mo s.mo ha.mo hb.mo, fun F => pe_weak (pe_ix hr (ha.run F) (hb.run F) hs) fun _ _ _ => rd_e2 s ha.mo hb.mo⟩
theorem se_callB {id : String} {x : Str} {p : Pos} {r} (hc : CallR X (.builtin id) r) (s : SdN X.K h r) (hg : Gl X x) (hm : X.mg x = none) (hv : bootBuiltins x = some (.builtin id)) (ha : SA X (e :: es) W) (hn : x ≠ "__name__" := by decide) (hdb : (x == ("__debug__" : Str)) = false := by decide)
    (he : starEach (e :: es) X.env = (false, eval e X.env) :: starEach es X.env := by rfl) (hpl : (backTo pos (starEach es X.env)).any (·.1) = false := by rfl) : SE X (.Call (.Name x p) (e :: es) [] pos) (eN h W) :=
  ⟨eN_mo s.mo ha.mo, fun F => pe_weak (pe_callB hc hg hm hv (ha.run F) hn hdb he hpl) fun _ _ _ => rd_eN s ha.mo⟩
theorem se_callTy {T : String} {x : Str} {p : Pos} {r} (hc : CallR X (.type T) r) (s : SdN X.K h r) (hg : Gl X x) (hm : X.mg x = none) (hv : bootBuiltins x = some (.type T)) (ha : SA X (e :: es) W) (hn : x ≠ "__name__" := by decide) (hdb : (x == ("__debug__" : Str)) = false := by decide)
    (he : starEach (e :: es) X.env = (false, eval e X.env) :: starEach es X.env := by rfl) (hpl : (backTo pos (starEach es X.env)).any (·.1) = false := by rfl) : SE X (.Call (.Name x p) (e :: es) [] pos) (eN h W) :=
  ⟨eN_mo s.mo ha.mo, fun F => pe_weak (pe_callTy hc hg hm hv (ha.run F) hn hdb he hpl) fun _ _ _ => rd_eN s ha.mo⟩
end

/-! ### tests -/
section
variable {X : Cx} {e a b c : Expr} {rest : List Expr} {pos : Pos} {W Wb : WE} {tA tB : WT}
/-- a value that is a bool, as a test -/
def tOf (W : WE) : WT := fun ts Q => W ts fun c ts1 => ∃ b, c.1 = .bool b ∧ Q b ts1
theorem contT_E {K F σ H A Q c ts'} (h : ∃ b, c.1 = PyData.bool b ∧ contT K F σ H A Q b ts') : contE K F σ H A (fun x H' => ∃ k, x = .bl k ∧ Q k H') c ts' := fun v H' A' B k nb fb g w => by
  obtain ⟨b, e, h⟩ := h
  have r := Ow.dp w
  rw [e] at r
  cases r
  exact ⟨b, rfl, h H' A' k.unpend (g.less fun x hx => List.mem_append_left _ hx)⟩
theorem st_of (h : SE X e W) (he : ∀ whole, isTrue e X.env whole = (do let v ← whole; standAt e.pos; holding [v] (truthy v)) := by intro _; rfl) : ST X e (tOf W) :=
  ⟨fun _ _ _ k => h.mo _ _ _ fun _ _ ⟨b, e, q⟩ => ⟨b, e, k _ _ q⟩, fun F => pt_weak (pt_val (h.run F) he) fun σ H Q ⟨ts, A, k, q⟩ => ⟨ts, A, k, h.mo _ _ _ (fun _ _ => contT_E) q⟩⟩
theorem st_cmp {op : CmpOp} {r : R2} {g : F2} {wa wb : WO} (ho : OpR X (compareOp op) r) (s : Sd2 X.K g r) (ha : SO X a wa) (hb : SO X b wb) (hm : behindInMarks op b = false) : ST X (.Compare a [op] [b] pos) (tOf (e2 g wa wb)) := by
  have h := se_cmp (pos := pos) ho s ha hb hm
  refine ⟨fun _ _ _ k => h.mo _ _ _ fun _ _ ⟨b, e, q⟩ => ⟨b, e, k _ _ q⟩, fun F => pt_weak (pt_cmpR ho (ha.run F) (hb.run F) hm) fun σ H Q ⟨ts, A, k, q⟩ => ?_⟩
  exact rd_e2 s ha.mo hb.mo (Q := fun x H' => ∃ k, x = .bl k ∧ Q k H') ⟨ts, A, k, h.mo _ _ _ (fun _ _ => contT_E) q⟩
def tAnd (t u : WT) : WT := fun ts Q => t ts fun c ts1 => if c = true then u ts1 Q else Q false ts1
def tOr (t u : WT) : WT := fun ts Q => t ts fun c ts1 => if c = true then Q true ts1 else u ts1 Q
def tNot (t : WT) : WT := fun ts Q => t ts fun c ts1 => Q (!c) ts1
theorem contT_tr {K F σ H H1 A A1 Q b ts'} (g : Chg A H A1 H1) (h : contT K F σ H A Q b ts') : contT K F σ H1 A1 Q b ts' := fun H' A' k g' => h H' A' k (g.trans g')
theorem sw_st (h : SW X e tA) : ST X e tA := ⟨h.mo, fun F => (h.run F).pt⟩
theorem sw_and1 (h : ST X a tA) : SW X (.BoolOp .And [a] pos) tA := ⟨h.mo, fun F => pw_and1 (h.run F)⟩
theorem sw_or1 (h : ST X a tA) : SW X (.BoolOp .Or [a] pos) tA := ⟨h.mo, fun F => pw_or1 (h.run F)⟩
theorem sw_and (ha : ST X a tA) (hb : SW X (.BoolOp .And (b :: rest) pos) tB) : SW X (.BoolOp .And (a :: b :: rest) pos) (tAnd tA tB) := by
  refine ⟨fun _ _ _ k => ha.mo _ _ _ fun c _ q => ?_, fun F => pw_weak (pw_and (ha.run F) (hb.run F)) fun σ H Q ⟨ts, A, k, q⟩ => ⟨ts, A, k, ha.mo _ _ _ (fun c ts1 q H1 A1 k1 g1 => ?_) q⟩⟩
  · cases c with
    | true => exact hb.mo _ _ _ k q
    | false => exact k _ _ q
  · cases c with
    | true => exact ⟨ts1, A1, k1, hb.mo _ _ _ (fun _ _ => contT_tr g1) q⟩
    | false => exact q H1 A1 k1 g1
theorem sw_or (ha : ST X a tA) (hb : SW X (.BoolOp .Or (b :: rest) pos) tB) : SW X (.BoolOp .Or (a :: b :: rest) pos) (tOr tA tB) := by
  refine ⟨fun _ _ _ k => ha.mo _ _ _ fun c _ q => ?_, fun F => pw_weak (pw_or (ha.run F) (hb.run F)) fun σ H Q ⟨ts, A, k, q⟩ => ⟨ts, A, k, ha.mo _ _ _ (fun c ts1 q H1 A1 k1 g1 => ?_) q⟩⟩
  · cases c with
    | true => exact k _ _ q
    | false => exact hb.mo _ _ _ k q
  · cases c with
    | true => exact q H1 A1 k1 g1
    | false => exact ⟨ts1, A1, k1, hb.mo _ _ _ (fun _ _ => contT_tr g1) q⟩
theorem st_not (ha : ST X a tA) : ST X (.UnaryOp .Not a pos) (tNot tA) :=
  ⟨fun _ _ _ k => ha.mo _ _ _ fun _ _ => k _ _, fun F => pt_weak (pt_not (ha.run F)) fun σ H Q ⟨ts, A, k, q⟩ => ⟨ts, A, k, ha.mo _ _ _ (fun c ts1 q H1 A1 k1 g1 => q H1 A1 k1 g1) q⟩⟩
/-- as values, of bools -/
def eAnd (t u : WE) : WE := fun ts Q => tOf t ts fun c ts1 => if c = true then u ts1 Q else Q (.bool false, .full) ts1
def eOr (t u : WE) : WE := fun ts Q => tOf t ts fun c ts1 => if c = true then Q (.bool true, .full) ts1 else u ts1 Q
def eNot (t : WE) : WE := fun ts Q => tOf t ts fun c ts1 => Q (.bool !c, .full) ts1
theorem contE_tr {K F σ H H1 A A1 Q b ts'} (g : Chg A H A1 H1) (h : contE K F σ H A Q b ts') : contE K F σ H1 A1 Q b ts' := fun v H' A' B k nb fb g' w => h v H' A' B k nb fb (g.trans g') w
theorem contE_bl {K F σ H A H1 A1 Q m b ts'} (k : Core K F ts' σ H1 A1) (g : Chg A H A1 H1) (h : contE K F σ H A Q (.bool b, m) ts') : Q (.bl b) H1 := pure_contE k g h _ _ [] (.of_sc rfl (.bl b))
theorem se_one {op} (h : SE X a W) : SE X (.BoolOp op [a] pos) W := ⟨h.mo, fun F => pe_one (h.run F)⟩
theorem dp_bl {K H M m v d A b} (w : Ow K H M m v d A) (e : d = PyData.bool b) : v = .bl b := by
  have r := Ow.dp w
  rw [e] at r
  cases r
  rfl
theorem se_and (ha : SE X a W) (hb : SE X (.BoolOp .And (b :: rest) pos) Wb) : SE X (.BoolOp .And (a :: b :: rest) pos) (eAnd W Wb) := by
  refine ⟨fun _ _ _ k => ha.mo _ _ _ fun c _ ⟨x, e, q⟩ => ⟨x, e, ?_⟩, fun F => pe_weak (pe_and (ha.run F) (hb.run F)) fun σ H Q ⟨ts, A, k, q⟩ => ⟨ts, A, k, ha.mo _ _ _ (fun c ts1 ⟨x, e, q⟩ v H1 A1 B k1 nb fb g1 w => ⟨x, dp_bl w e, ?_⟩) q⟩⟩
  · cases x with
    | true => exact hb.mo _ _ _ k q
    | false => exact k _ _ q
  · have g2 := g1.less (A'' := A1) fun x hx => List.mem_append_left _ hx
    cases x with
    | true => exact ⟨ts1, A1, k1.unpend, hb.mo _ _ _ (fun _ _ => contE_tr g2) q⟩
    | false => exact contE_bl k1.unpend g2 q
theorem se_or (ha : SE X a W) (hb : SE X (.BoolOp .Or (b :: rest) pos) Wb) : SE X (.BoolOp .Or (a :: b :: rest) pos) (eOr W Wb) := by
  refine ⟨fun _ _ _ k => ha.mo _ _ _ fun c _ ⟨x, e, q⟩ => ⟨x, e, ?_⟩, fun F => pe_weak (pe_or (ha.run F) (hb.run F)) fun σ H Q ⟨ts, A, k, q⟩ => ⟨ts, A, k, ha.mo _ _ _ (fun c ts1 ⟨x, e, q⟩ v H1 A1 B k1 nb fb g1 w => ⟨x, dp_bl w e, ?_⟩) q⟩⟩
  · cases x with
    | true => exact k _ _ q
    | false => exact hb.mo _ _ _ k q
  · have g2 := g1.less (A'' := A1) fun x hx => List.mem_append_left _ hx
    cases x with
    | true => exact contE_bl k1.unpend g2 q
    | false => exact ⟨ts1, A1, k1.unpend, hb.mo _ _ _ (fun _ _ => contE_tr g2) q⟩
theorem se_not (ha : SE X a W) : SE X (.UnaryOp .Not a pos) (eNot W) := by
  refine ⟨fun _ _ _ k => ha.mo _ _ _ fun c _ ⟨x, e, q⟩ => ⟨x, e, k _ _ q⟩, fun F => pe_weak (pe_not (ha.run F)) fun σ H Q ⟨ts, A, k, q⟩ => ⟨ts, A, k, ha.mo _ _ _ (fun c ts1 ⟨x, e, q⟩ v H1 A1 B k1 nb fb g1 w => ⟨x, dp_bl w e, ?_⟩) q⟩⟩
  exact contE_bl k1.unpend (g1.less (A'' := A1) fun x hx => List.mem_append_left _ hx) q
/-- a if t else b -/
def eIf (t : WT) (u w : WE) : WE := fun ts Q => t ts fun c ts1 => if c = true then u ts1 Q else w ts1 Q
theorem se_if {t : WT} (ht : ST X c t) (ha : SE X a W) (hb : SE X b Wb) : SE X (.IfExp c a b pos) (eIf t W Wb) := by
  refine ⟨fun _ _ _ k => ht.mo _ _ _ fun c _ q => ?_, fun F => pe_weak (pe_ifExp (ht.run F) (ha.run F) (hb.run F)) fun σ H Q ⟨ts, A, k, q⟩ => ⟨ts, A, k, ht.mo _ _ _ (fun c ts1 q H1 A1 k1 g1 => ?_) q⟩⟩
  · cases c with
    | true => exact ha.mo _ _ _ k q
    | false => exact hb.mo _ _ _ k q
  · cases c with
    | true => exact ⟨ts1, A1, k1, ha.mo _ _ _ (fun _ _ => contE_tr g1) q⟩
    | false => exact ⟨ts1, A1, k1, hb.mo _ _ _ (fun _ _ => contE_tr g1) q⟩
end
end TV
end
set_option Elab.async false
set_option linter.all false
set_option maxRecDepth 100000
/-! Part 3: statements, targets, loops. -/
section
namespace TV
open PySem PySem.Spec L2

structure TEnds where
  nx : TSt → Prop
  rt : TVal → TSt → Prop
  bk : TSt → Prop
  ct : TSt → Prop
abbrev WS := TEnds → TSt → Prop
structure TEnds.le (D D' : TEnds) : Prop where
  nx : ∀ t, D.nx t → D'.nx t
  rt : ∀ c t, D.rt c t → D'.rt c t
  bk : ∀ t, D.bk t → D'.bk t
  ct : ∀ t, D.ct t → D'.ct t
theorem TEnds.le.refl (D : TEnds) : D.le D := ⟨fun _ => id, fun _ _ => id, fun _ => id, fun _ => id⟩
def MoS (W : WS) : Prop := ∀ D D' ts, D.le D' → W D ts → W D' ts
/-- slots that stay as they are (parameters that are changed in place) -/
def Pin (io : List (Nat × Option V)) (σ : St) : Prop := ∀ p ∈ io, σ[p.1]? = some p.2
def contS (K : PySem.W.Frag) (F : Addr → Prop) (io : List (Nat × Option V)) (H : Hp) (A : List Addr) (R : St → Hp → Prop) (ts' : TSt) : Prop :=
  ∀ σ' H' A', Core K F ts' σ' H' A' → Chg A H A' H' → Pin io σ' → R σ' H'
/-- what an exception (told as a tree) must meet where it leaves: a wish of the context -/
abbrev WY := PyData → St → Hp → (Addr → Prop) → Prop
/-- no exception leaves -/
def Y0 : WY := fun _ _ _ _ => True
def contX (K : PySem.W.Frag) (Y : WY) (F : Addr → Prop) (io : List (Nat × Option V)) (H : Hp) (A : List Addr) (c : TVal) (ts' : TSt) : Prop :=
  ∀ σ' H' A', Core K F ts' σ' H' A' → Chg A H A' H' → Pin io σ' → Y c.1 σ' H' (fun a => F a ∨ a ∈ A')
def contR (K : PySem.W.Frag) (Y : WY) (F : Addr → Prop) (io : List (Nat × Option V)) (H : Hp) (A : List Addr) (R : VK) (c : TVal) (ts' : TSt) : Prop :=
  (∀ v σ' H' A' B, Core K (fun a => F a ∨ a ∈ B) ts' σ' H' A' → B.Nodup → (∀ a ∈ B, ¬ F a) → Chg A H (A' ++ B) H' → Pin io σ' → Ow K H' (fun a => (F a ∨ a ∈ B) ∨ a ∈ A') c.2 v c.1 B → R v H') ∧ contX K Y F io H A c ts'
def endsR (K : PySem.W.Frag) (Y : WY) (F : Addr → Prop) (io : List (Nat × Option V)) (H : Hp) (A : List Addr) (D : Ends) : TEnds :=
  ⟨contS K F io H A D.nx, contR K Y F io H A D.rt, contS K F io H A D.bk, contS K F io H A D.ct⟩
def rdS (K : PySem.W.Frag) (Y : WY) (F : Addr → Prop) (io : List (Nat × Option V)) (W : WS) : TS := fun D σ H => ∃ ts A, Core K F ts σ H A ∧ Pin io σ ∧ W (endsR K Y F io H A D) ts
structure SSY (Y : WY) (X : Cx) (J : List Nat) (s : Stmt) (W : WS) : Prop where
  mo : MoS W
  run : ∀ F io, io.map (·.1) = J → PS X s (rdS X.K Y F io W)
structure SSsY (Y : WY) (X : Cx) (J : List Nat) (s : List Stmt) (W : WS) : Prop where
  mo : MoS W
  run : ∀ F io, io.map (·.1) = J → PSs X s (rdS X.K Y F io W)
abbrev SS (X : Cx) := SSY Y0 X
abbrev SSs (X : Cx) := SSsY Y0 X
theorem pin_set {io : List (Nat × Option V)} {J : List Nat} {i : Nat} {σ : St} {v : Option V} (hj : io.map (·.1) = J) (hn : i ∉ J) (p : Pin io σ) : Pin io (σ.set i v) := fun y hy => by
  have h : y.1 ∈ J := by rw [← hj]; exact List.mem_map_of_mem hy
  have h2 : i ≠ y.1 := fun e => by subst e; exact hn h
  rw [List.getElem?_set_ne h2]
  exact p y hy
theorem ps_weak {X : Cx} {s : Stmt} {t t' : TS} (h : PS X s t) (k : ∀ D σ H, t' D σ H → t D σ H) : PS X s t' := ⟨fun pins s σ H D I q => h.run pins s σ H D I (k D σ H q)⟩
theorem pss_weak {X : Cx} {s : List Stmt} {t t' : TS} (h : PSs X s t) (k : ∀ D σ H, t' D σ H → t D σ H) : PSs X s t' := ⟨fun pins s σ H D I q => h.run pins s σ H D I (k D σ H q)⟩

section
variable {K : PySem.W.Frag} {F : Addr → Prop} {io : List (Nat × Option V)} {ts ts' : TSt} {σ : St} {H H' : Hp} {A A' B : List Addr} {D : Ends}
theorem contS_tr {R} (g : Chg A H A' H') (h : contS K F io H A R ts') : contS K F io H' A' R ts' := fun σ' H2 A2 k g' => h σ' H2 A2 k (g.trans g')
theorem contX_tr {Y c} (g : Chg A H A' H') (h : contX K Y F io H A c ts') : contX K Y F io H' A' c ts' := fun σ' H2 A2 k g' => h σ' H2 A2 k (g.trans g')
theorem contR_tr {Y R c} (g : Chg A H A' H') (h : contR K Y F io H A R c ts') : contR K Y F io H' A' R c ts' := ⟨fun v σ' H2 A2 B k nb fb g' => h.1 v σ' H2 A2 B k nb fb (g.trans g'), contX_tr g h.2⟩
theorem ends_tr {Y} (g : Chg A H A' H') : (endsR K Y F io H A D).le (endsR K Y F io H' A' D) := ⟨fun _ => contS_tr g, fun _ _ => contR_tr g, fun _ => contS_tr g, fun _ => contS_tr g⟩
end

section
variable {X : Cx} {J : List Nat} {Y : WY} {st : Stmt} {rest : List Stmt} {e c : Expr} {pos : Pos} {W W' : WS} {We : WE} {Wt : WT}
def wSeq (W1 W2 : WS) : WS := fun D ts => W1 { D with nx := fun ts' => W2 D ts' } ts
def wNext : WS := fun D ts => D.nx ts
theorem sss_nil : SSsY Y X J [] wNext := ⟨fun _ _ _ l => l.nx _, fun F io hj => pss_weak pss_nil fun D σ H ⟨ts, A, k, p, q⟩ => q σ H A k Chg.refl p⟩
theorem seq_mo (h1 : MoS W) (h2 : MoS W') : MoS (wSeq W W') := fun D D' ts l => h1 _ _ _ ⟨fun _ => h2 _ _ _ l, l.rt, l.bk, l.ct⟩
theorem sss_cons (h1 : SSY Y X J st W) (h2 : SSsY Y X J rest W') : SSsY Y X J (st :: rest) (wSeq W W') := by
  refine ⟨seq_mo h1.mo h2.mo, fun F io hj => pss_weak (pss_cons (h1.run F io hj) (h2.run F io hj)) ?_⟩
  rintro D σ H ⟨ts, A, k, p, q⟩
  refine ⟨ts, A, k, p, h1.mo { endsR X.K Y F io H A D with nx := fun ts' => W' (endsR X.K Y F io H A D) ts' } _ _ ⟨?_, fun _ _ => id, fun _ => id, fun _ => id⟩ q⟩
  exact fun ts1 q1 σ' H' A' k' g' p' => ⟨ts1, A', k', p', h2.mo _ _ _ (ends_tr g') q1⟩
theorem sss_one (h1 : SSY Y X J st W) : SSsY Y X J [st] W := ⟨h1.mo, fun F io hj => pss_one (h1.run F io hj)⟩
/-- what is never come to -/
def wNever : WS := fun _ _ => False
theorem ss_never : SSY Y X J st wNever := ⟨fun _ _ _ _ => id, fun F io hj => ps_weak ps_never fun D σ H ⟨ts, A, k, p, q⟩ => q⟩
theorem sss_never {sts : List Stmt} : SSsY Y X J sts wNever := ⟨fun _ _ _ _ => id, fun F io hj => pss_weak pss_never fun D σ H ⟨ts, A, k, p, q⟩ => q⟩
theorem ss_pass : SSY Y X J (.Pass pos) wNext := ⟨fun _ _ _ l => l.nx _, fun F io hj => ps_weak ps_pass fun D σ H ⟨ts, A, k, p, q⟩ => q σ H A k Chg.refl p⟩
def wBreak : WS := fun D ts => D.bk ts
theorem ss_break : SSY Y X J (.Break pos) wBreak := ⟨fun _ _ _ l => l.bk _, fun F io hj => ps_weak ps_break fun D σ H ⟨ts, A, k, p, q⟩ => q σ H A k Chg.refl p⟩
def wCont : WS := fun D ts => D.ct ts
theorem ss_cont : SSY Y X J (.Continue pos) wCont := ⟨fun _ _ _ l => l.ct _, fun F io hj => ps_weak ps_continue fun D σ H ⟨ts, A, k, p, q⟩ => q σ H A k Chg.refl p⟩
theorem ss_doc {x j pos pos'} : SSY Y X J (.Expr (.Constant (.str x) j pos) pos') wNext := ⟨fun _ _ _ l => l.nx _, fun F io hj => ps_weak ps_doc fun D σ H ⟨ts, A, k, p, q⟩ => q σ H A k Chg.refl p⟩
def wExpr (We : WE) : WS := fun D ts => We ts fun _ ts1 => D.nx ts1
theorem ss_expr (h : SE X e We) (hs : swapsWith e none pos.line X.env = pure false := by rfl) : SSY Y X J (.Expr e pos) (wExpr We) := by
  refine ⟨fun _ _ _ l => h.mo _ _ _ fun _ _ => l.nx _, fun F io hj => ps_weak (ps_expr (h.run F) hs) ?_⟩
  rintro D σ H ⟨ts, A, k, p, q⟩
  exact ⟨ts, A, k, h.mo _ _ _ (fun c ts1 q v H1 A1 B k1 nb fb g1 w => q σ H1 A1 k1.unpend (g1.less fun x hx => List.mem_append_left _ hx) p) q⟩
def wRet (We : WE) : WS := fun D ts => We ts fun c ts1 => D.rt c ts1
theorem ss_ret (h : SE X e We) : SSY Y X J (.Return (some e) pos) (wRet We) := by
  refine ⟨fun _ _ _ l => h.mo _ _ _ fun _ _ => l.rt _ _, fun F io hj => ps_weak (ps_ret (h.run F)) ?_⟩
  rintro D σ H ⟨ts, A, k, p, q⟩
  exact ⟨ts, A, k, h.mo _ _ _ (fun c ts1 q v H1 A1 B k1 nb fb g1 w => q.1 v σ H1 A1 B k1 nb fb g1 p w) q⟩
def wRetN : WS := fun D ts => D.rt (.none, .full) ts
theorem ss_retN : SSY Y X J (.Return none pos) wRetN := by
  refine ⟨fun _ _ _ l => l.rt _ _, fun F io hj => ps_weak ps_retN ?_⟩
  rintro D σ H ⟨ts, A, k, p, q⟩
  obtain ⟨h1, h2, h3, h4⟩ := pure_core k Chg.refl (PureO.of_sc (m := .full) rfl (Rp.non (K := X.K)))
  exact q.1 _ σ H A [] h1 List.nodup_nil h2 h3 p h4
def wIf (t : WT) (W1 W2 : WS) : WS := fun D ts => t ts fun b ts1 => if b = true then W1 D ts1 else W2 D ts1
theorem ss_if {a b : List Stmt} {W1 W2 : WS} (hc : ST X c Wt) (ha : SSsY Y X J a W1) (hb : SSsY Y X J b W2) : SSY Y X J (.If c a b pos) (wIf Wt W1 W2) := by
  refine ⟨fun _ _ _ l => hc.mo _ _ _ fun b _ q => ?_, fun F io hj => ps_weak (ps_if (hc.run F) (ha.run F io hj) (hb.run F io hj)) ?_⟩
  · cases b with
    | true => exact ha.mo _ _ _ l q
    | false => exact hb.mo _ _ _ l q
  · rintro D σ H ⟨ts, A, k, p, q⟩
    refine ⟨ts, A, k, hc.mo _ _ _ (fun b ts1 q H1 A1 k1 g1 => ?_) q⟩
    cases b with
    | true => exact ⟨ts1, A1, k1, p, ha.mo _ _ _ (ends_tr g1) q⟩
    | false => exact ⟨ts1, A1, k1, p, hb.mo _ _ _ (ends_tr g1) q⟩
end

/-! ### targets -/
abbrev WG := TVal → TSt → (TSt → Prop) → Prop
def MoG (G : WG) : Prop := ∀ c ts Q Q', (∀ t, Q t → Q' t) → G c ts Q → G c ts Q'
def rdG (K : PySem.W.Frag) (F : Addr → Prop) (io : List (Nat × Option V)) (G : WG) : TG := fun v σ H Q => ∃ ts A B c, Core K (fun a => F a ∨ a ∈ B) ts σ H A ∧ B.Nodup ∧ (∀ a ∈ B, ¬ F a) ∧ Ow K H (fun a => (F a ∨ a ∈ B) ∨ a ∈ A) c.2 v c.1 B ∧ Pin io σ ∧
  G c ts (contS K F io H (A ++ B) Q)
structure SG (X : Cx) (J : List Nat) (tg : Expr) (G : WG) : Prop where
  mo : MoG G
  run : ∀ F io, io.map (·.1) = J → PG X tg (rdG X.K F io G)
abbrev WGs := List TVal → TSt → (TSt → Prop) → Prop
def MoGs (G : WGs) : Prop := ∀ c ts Q Q', (∀ t, Q t → Q' t) → G c ts Q → G c ts Q'
inductive OwL (K : PySem.W.Frag) (H : Hp) (M : Addr → Prop) : List V → List TVal → List Addr → Prop
  | nil : OwL K H M [] [] []
  | cons {v vs c cs A B} : Ow K H M c.2 v c.1 A → OwL K H M vs cs B → OwL K H M (v :: vs) (c :: cs) (A ++ B)
def rdGs (K : PySem.W.Frag) (F : Addr → Prop) (io : List (Nat × Option V)) (G : WGs) : TGs := fun vs σ H Q => ∃ ts A B cs, Core K (fun a => F a ∨ a ∈ B) ts σ H A ∧ B.Nodup ∧ (∀ a ∈ B, ¬ F a) ∧ OwL K H (fun a => (F a ∨ a ∈ B) ∨ a ∈ A) vs cs B ∧ Pin io σ ∧
  G cs ts (contS K F io H (A ++ B) Q)
structure SGs (X : Cx) (J : List Nat) (tgs : List Expr) (G : WGs) : Prop where
  mo : MoGs G
  run : ∀ F io, io.map (·.1) = J → PGs X tgs (rdGs X.K F io G)
theorem pg_weak {X : Cx} {tg : Expr} {t t' : TG} (h : PG X tg t) (k : ∀ v σ H Q, t' v σ H Q → t v σ H Q) : PG X tg t' := ⟨fun pins s σ H v u Q I r q => h.run pins s σ H v u Q I r (k v σ H Q q)⟩
theorem pgs_weak {X : Cx} {tg : List Expr} {t t' : TGs} (h : PGs X tg t) (k : ∀ v σ H Q, t' v σ H Q → t v σ H Q) : PGs X tg t' := ⟨fun pins s σ H v u Q I r q => h.run pins s σ H v u Q I r (k v σ H Q q)⟩
section
variable {K : PySem.W.Frag} {H H' : Hp} {M M' : Addr → Prop}
theorem OwL.stay (s : Stay H M H' M') : ∀ {vs cs A}, OwL K H M vs cs A → (∀ a ∈ A, H' a = H a) → OwL K H' M' vs cs A
  | _, _, _, .nil, _ => .nil
  | _, _, _, .cons h r, k => .cons (Ow.stay s _ _ _ _ h fun a ha => k a (List.mem_append_left _ ha)) (OwL.stay s r fun a ha => k a (List.mem_append_right _ ha))
theorem OwL.there : ∀ {vs cs A}, OwL K H M vs cs A → ∀ a ∈ A, ∃ xs, H a = some (.lst xs)
  | _, _, _, .cons h r, a, ha => (List.mem_append.mp ha).elim (fun z => Ow.there _ _ _ _ h a z) fun z => OwL.there r a z
theorem OwL.len : ∀ {vs cs A}, OwL K H M vs cs A → vs.length = cs.length
  | _, _, _, .nil => rfl
  | _, _, _, .cons _ r => by rw [List.length_cons, List.length_cons, r.len]
theorem OwL.full : ∀ {vs ds A}, OwAll K H M vs ds A → OwL K H M vs (ds.map fun d => (d, .full)) A
  | _, _, _, .nil => .nil
  | _, _, _, .cons h r => .cons (c := (_, .full)) h (OwL.full r)
theorem OwL.fz : ∀ {vs ds}, RpAll K H M vs ds → OwL K H M vs (ds.map fun d => (d, .fz)) []
  | _, _, .nil => .nil
  | _, _, .cons h r => .cons (A := []) (B := []) (c := (_, .fz)) (.fz h) (OwL.fz r)
end
/-- the mask of an item -/
def kidM : Own → Own
  | .full => .full
  | _ => .fz
/-- the items of a tuple -/
theorem Ow.kids {K H M m v ds A} (h : Ow K H M m v (.tuple ds) A) : ∃ a vs, v = .ref a ∧ SqT K H a vs ∧ OwL K H M vs (ds.map fun d => (d, kidM m)) A := by
  cases h with
  | fz h => cases h with
    | tup h r => exact ⟨_, _, rfl, h.sq, OwL.fz r⟩
  | sc e _ => simp [scalar] at e
  | topT h => cases h with
    | tup h r => exact ⟨_, _, rfl, h.sq, OwL.fz r⟩
  | fullT h r => exact ⟨_, _, rfl, h.sq, OwL.full r⟩
section
variable {X : Cx} {J : List Nat} {Y : WY} {tg e : Expr} {tgs : List Expr} {pos : Pos} {We : WE} {G : WG} {Gs : WGs}
def gN (i : Nat) : WG := fun c ts Q => i < ts.length ∧ Q (ts.set i (some c))
theorem sg_n {i : Nat} (hn : i ∉ J) (h : PG X tg (gName i)) : SG X J tg (gN i) := by
  refine ⟨fun c ts Q Q' k h => ⟨h.1, k _ h.2⟩, fun F io hj => pg_weak h ?_⟩
  rintro v σ H Q ⟨ts, A, B, c, k, nb, fb, w, p, hi, q⟩
  obtain ⟨A', k', sub⟩ := k.put nb fb hi w
  refine q _ H A' k' ⟨fun _ _ e _ => e, fun x hx => .inl (List.mem_append.mpr (sub x hx))⟩ fun y hy => ?_
  exact pin_set hj hn p y hy
def gsNil : WGs := fun cs ts Q => cs = [] ∧ Q ts
def gsCons (G : WG) (Gs : WGs) : WGs := fun cs ts Q => ∃ c r, cs = c :: r ∧ G c ts fun ts1 => Gs r ts1 Q
theorem sgs_nil : SGs X J [] gsNil := by
  refine ⟨fun c ts Q Q' k h => ⟨h.1, k _ h.2⟩, fun F io hj => pgs_weak pgs_nil ?_⟩
  rintro vs σ H Q ⟨ts, A, B, cs, k, nb, fb, w, p, rfl, q⟩
  cases w
  exact ⟨rfl, q σ H A k.unpend ⟨fun _ _ e _ => e, fun x hx => .inl (List.mem_append_left _ hx)⟩ p⟩
theorem sgs_cons (h1 : SG X J tg G) (h2 : SGs X J tgs Gs) (hs : (assignEach (tg :: tgs) X.env).map (·.2) = assign tg X.env :: (assignEach tgs X.env).map (·.2) := by rfl) : SGs X J (tg :: tgs) (gsCons G Gs) := by
  refine ⟨fun c ts Q Q' k ⟨x, r, e, q⟩ => ⟨x, r, e, h1.mo _ _ _ _ (fun _ => h2.mo _ _ _ _ k) q⟩, fun F io hj => ?_⟩
  refine ⟨fun pins s σ H vs us Q I r q => ?_⟩
  obtain ⟨ts, A, B, cs, k, nb, fb, w, p, c, rc, rfl, q⟩ := q
  cases w with
  | @cons v vs' _ _ B1 B2 w1 w2 =>
    obtain ⟨n1, n2, n3⟩ := List.nodup_append.mp nb
    have kk : Core X.K (fun a => (F a ∨ a ∈ B2) ∨ a ∈ B1) ts σ H A := by
      have e : (fun a => (F a ∨ a ∈ B2) ∨ a ∈ B1) = fun a => F a ∨ a ∈ B1 ++ B2 := by
        funext a
        rw [List.mem_append]
        exact propext ⟨fun h => h.elim (fun h => h.elim .inl fun h => .inr (.inr h)) fun h => .inr (.inl h), fun h => h.elim (fun h => .inl (.inl h)) fun h => h.elim .inr fun h => .inl (.inr h)⟩
      rw [e]; exact k
    have s1 : Stay H (fun a => (F a ∨ a ∈ B1 ++ B2) ∨ a ∈ A) H (fun a => ((F a ∨ a ∈ B2) ∨ a ∈ B1) ∨ a ∈ A) := stay_less fun a x => by
      rw [List.mem_append]
      rcases x with ((x | x) | x) | x
      · exact .inl (.inl x)
      · exact .inl (.inr (.inr x))
      · exact .inl (.inr (.inl x))
      · exact .inr x
    have P := pgs_cons (h1.run (fun a => F a ∨ a ∈ B2) io hj) (h2.run F io hj) hs
    refine P.run pins s σ H _ us Q I r ⟨v, vs', rfl, ts, A, B1, c, kk, n1, fun a ha f => ?_, Ow.stay s1 _ _ _ _ w1 fun _ _ => rfl, p, h1.mo _ _ _ _ (fun ts1 q1 σ1 H1 A1 k1 g1 p1 => ?_) q⟩
    · rcases f with f | f
      · exact fb a (List.mem_append_left _ ha) f
      · exact n3 a ha a f rfl
    · have nf : ∀ a ∈ B2, H1 a = H a := fun a ha => by
        obtain ⟨xs, e⟩ := w2.there a ha
        rw [e, g1.ext a _ e fun h => ?_]
        rcases List.mem_append.mp h with h | h
        · exact k.dj a h (.inr (List.mem_append_right _ ha))
        · exact n3 a h a ha rfl
      refine ⟨ts1, A1, B2, rc, k1, n2, fun a ha f => fb a (List.mem_append_right _ ha) f, w2.stay (fun b o e n => ?_) nf, p1, h2.mo _ _ _ _ (fun ts2 q2 σ2 H2 A2 k2 g2 p2 => q2 σ2 H2 A2 k2 (Chg.trans ⟨fun b o e n => ?_, fun x hx => ?_⟩ g2) p2) q1⟩
      · have nA : b ∉ A := fun h => n (.inr h)
        have nB : b ∉ B1 := fun h => n (.inl (.inr (List.mem_append_left _ h)))
        refine ⟨g1.ext b o e fun h => (List.mem_append.mp h).elim nA nB, fun x => ?_⟩
        rcases x with (x | x) | x
        · exact n (.inl (.inl x))
        · exact n (.inl (.inr (List.mem_append_right _ x)))
        · rcases g1.sub b x with h | h
          · exact (List.mem_append.mp h).elim nA nB
          · rw [h] at e; cases e
      · exact g1.ext b o e fun h => n (by simp only [List.mem_append] at h ⊢; exact h.imp id .inl)
      · rcases List.mem_append.mp hx with hx | hx
        · exact (g1.sub x hx).imp (fun h => by simp only [List.mem_append] at h ⊢; exact h.imp id .inl) id
        · exact .inl (by simp only [List.mem_append]; exact .inr (.inr hx))
def gT (n : Nat) (Gs : WGs) : WG := fun c ts Q => ∃ ds, c.1 = .tuple ds ∧ ds.length = n ∧ Gs (ds.map fun d => (d, kidM c.2)) ts Q
theorem sg_t {es : List Expr} {k n : Nat} (hc : X.calm = true) (h : SGs X J es Gs) (hn : (assignEach es X.env).length = n := by rfl) (hst : (assignEach es X.env).findIdx? (·.1) = none := by rfl) : SG X J (.Tuple es k pos) (gT n Gs) := by
  refine ⟨fun c ts Q Q' k ⟨ds, e, l, q⟩ => ⟨ds, e, l, h.mo _ _ _ _ k q⟩, fun F io hj => pg_weak (pg_tup hc (h.run F io hj) hn hst) ?_⟩
  rintro v σ H Q ⟨ts, A, B, c, kk, nb, fb, w, p, ds, e, l, q⟩
  rw [e] at w
  obtain ⟨a, vs, rfl, sq, w2⟩ := w.kids
  have e2 : vs.length = ds.length := by
    have e3 := w2.len
    rwa [List.length_map] at e3
  exact ⟨a, vs, rfl, sq, e2.trans l, ts, A, B, _, kk, nb, fb, w2, p, q⟩
def wAsg (We : WE) (G : WG) : WS := fun D ts => We ts fun c ts1 => G c ts1 D.nx
theorem asg_mo (h : Mo We) (g : MoG G) : MoS (wAsg We G) := fun _ _ _ l => h _ _ _ fun _ _ => g _ _ _ _ l.nx
theorem rd_asg {K F io D σ H} (he : Mo We) (g : MoG G) (h : rdS K Y F io (wAsg We G) D σ H) : tAsg (rdE K F We) (rdG K F io G) D σ H := by
  obtain ⟨ts, A, k, p, q⟩ := h
  refine ⟨ts, A, k, he _ _ _ (fun c ts1 q v H1 A1 B k1 nb fb g1 w => ?_) q⟩
  exact ⟨ts1, A1, B, c, k1, nb, fb, w, p, g _ _ _ _ (fun ts2 => contS_tr g1) q⟩
/-- target = e -/
theorem ss_asg (he : SE X e We) (hg : SG X J tg G) (hs : swapsWithSole [tg] e pos.line X.env = pure false := by rfl) (hw : swappedStores [tg] e X.env = pure none := by rfl) (h1 : (assignEach [tg] X.env).map (·.2) = [assign tg X.env] := by rfl) : SSY Y X J (.Assign [tg] e pos) (wAsg We G) :=
  ⟨asg_mo he.mo hg.mo, fun F io hj => ps_weak (ps_asg (he.run F) (hg.run F io hj) hs hw h1) fun _ _ _ => rd_asg he.mo hg.mo⟩
/-- name = e -/
theorem ss_set {i : Nat} {x : Str} {pos' : Pos} (hN : X.N.Nodup) (hi : X.N[i]? = some x) (hx : Loc X.env.scope x) (hn : i ∉ J) (he : SE X e We) (hs : swapsWith e (some (.Name x pos')) pos.line X.env = pure false := by rfl)
    (hf : X.fn x = true ∨ X.env.scope.names.lookup x = some .local := by first | exact .inl rfl | exact .inr rfl | assumption) : SSY Y X J (.Assign [.Name x pos'] e pos) (wAsg We (gN i)) := by
  have hg : SG X J (.Name x pos') (gN i) := sg_n hn (pg_name hN hi hx hf)
  refine ⟨asg_mo he.mo hg.mo, fun F io hj => ps_weak (ps_set hN hi hx (he.run F) hs hf) fun D σ H h => ?_⟩
  obtain ⟨ts, A, k, p, q⟩ := h
  refine ⟨ts, A, k, he.mo _ _ _ (fun c ts1 q v H1 A1 B k1 nb fb g1 w => ?_) q⟩
  obtain ⟨hl, q⟩ := q
  obtain ⟨A', k', sub⟩ := k1.put nb fb hl w
  refine q _ H1 A' k' (g1.trans ⟨fun _ _ e _ => e, fun x hx => .inl (List.mem_append.mpr (sub x hx))⟩) fun y hy => ?_
  exact pin_set hj hn p y hy
end

/-! ### while -/
def wWhile (t : WT) (Wb : WS) : WS := fun D ts => ∃ W : Nat → TSt → Prop, (∃ m, W m ts) ∧ ∀ m ts, W m ts →
  t ts fun b ts1 => if b = true then Wb { D with nx := fun ts' => ∃ m', m' < m ∧ W m' ts', ct := fun ts' => ∃ m', m' < m ∧ W m' ts', bk := D.nx } ts1 else D.nx ts1
section
variable {X : Cx} {J : List Nat} {Y : WY} {c : Expr} {body : List Stmt} {pos : Pos} {Wt : WT} {Wb : WS}
theorem ss_while (hp : PassesOwn (model X.prog X.w) X.A X.env X.xe) (hc : ST X c Wt) (hb : SSsY Y X J body Wb) : SSY Y X J (.While c body [] pos) (wWhile Wt Wb) := by
  refine ⟨fun D D' ts l ⟨W, h0, hw⟩ => ⟨W, h0, fun m ts w => hc.mo _ _ _ (fun b ts1 q => ?_) (hw m ts w)⟩, fun F io hj => ps_weak (ps_while hp (hc.run F) (hb.run F io hj)) ?_⟩
  · cases b with
    | true => exact hb.mo { D with nx := fun ts' => ∃ m', m' < m ∧ W m' ts', ct := fun ts' => ∃ m', m' < m ∧ W m' ts', bk := D.nx } _ _ ⟨fun _ => id, l.rt, l.nx, fun _ => id⟩ q
    | false => exact l.nx _ q
  · rintro D σ H ⟨ts, A, k, p, W, ⟨m0, h0⟩, hw⟩
    refine ⟨fun m σ' H' => ∃ ts' A', Core X.K F ts' σ' H' A' ∧ Chg A H A' H' ∧ Pin io σ' ∧ W m ts', ⟨m0, ts, A, k, Chg.refl, p, h0⟩, ?_⟩
    rintro m σ1 H1 ⟨ts1, A1, k1, g1, p1, w1⟩
    refine ⟨ts1, A1, k1, hc.mo _ _ _ (fun b ts2 q H2 A2 k2 g2 => ?_) (hw m ts1 w1)⟩
    cases b with
    | true =>
      refine ⟨fun σ' H' => ∃ m', m' < m ∧ ∃ ts' A', Core X.K F ts' σ' H' A' ∧ Chg A H A' H' ∧ Pin io σ' ∧ W m' ts', fun σ' H' ⟨m', l, z⟩ => ⟨m', l, z⟩, ts2, A2, k2, p1, hb.mo { endsR X.K Y F io H A D with nx := fun ts' => ∃ m', m' < m ∧ W m' ts', ct := fun ts' => ∃ m', m' < m ∧ W m' ts', bk := (endsR X.K Y F io H A D).nx } _ _ ⟨?_, ?_, ?_, ?_⟩ q⟩
      · rintro ts3 ⟨m', l, w3⟩ σ3 H3 A3 k3 g3 p3
        exact ⟨m', l, ts3, A3, k3, (g1.trans g2).trans g3, p3, w3⟩
      · exact fun c t => contR_tr (g1.trans g2)
      · exact fun t => contS_tr (g1.trans g2)
      · rintro ts3 ⟨m', l, w3⟩ σ3 H3 A3 k3 g3 p3
        exact ⟨m', l, ts3, A3, k3, (g1.trans g2).trans g3, p3, w3⟩
    | false => exact q σ1 H2 A2 k2 (g1.trans g2) p1
end

/-! ### what is walked -/
/-- J yields the trees ds, as long as Z holds -/
structure Wk (K : PySem.W.Frag) (J : It) (ds : List PyData) (Z : (Addr → Prop) → Hp → Prop) : Prop where
  stay : ∀ M H M' H', Z M H → Stay H M H' M' → Z M' H'
  go : ∀ M H i d, Z M H → ds[i]? = some d → J.go i H ∧ ∀ x H', J.yld i H x H' → (∀ b o, H b = some o → H' b = some o) ∧ Rp K H' (fun a => M a ∧ H a ≠ none) x d
  stop : ∀ M H, Z M H → J.stop ds.length H
abbrev WI := TSt → (List PyData → TSt → Prop) → Prop
def contI (K : PySem.W.Frag) (F : Addr → Prop) (σ : St) (H : Hp) (A : List Addr) (R : It → Hp → Prop) (ds : List PyData) (ts' : TSt) : Prop :=
  ∀ J Z H' A', Core K F ts' σ H' A' → Chg A H A' H' → Wk K J ds Z → Z (fun a => F a ∨ a ∈ A') H' → R J H'
def rdI (K : PySem.W.Frag) (F : Addr → Prop) (W : WI) : TI := fun σ H R => ∃ ts A, Core K F ts σ H A ∧ W ts (contI K F σ H A R)
structure SI (X : Cx) (tg iter : Expr) (W : WI) : Prop where
  mo : Mo W
  run : ∀ F, PI X tg iter (rdI X.K F W)
theorem pi_weak {X : Cx} {tg e : Expr} {t t' : TI} (h : PI X tg e t) (k : ∀ σ H Q, t' σ H Q → t σ H Q) : PI X tg e t' := ⟨fun pins s σ H Q I q => h.run pins s σ H Q I (k σ H Q q)⟩
/-! ### for -/
def forL (G : WG) (Wb : WS) (D : TEnds) : List PyData → TSt → Prop
  | [], ts => D.nx ts
  | d :: ds, ts => G (d, .fz) ts fun ts1 => Wb { D with nx := forL G Wb D ds, ct := forL G Wb D ds, bk := D.nx } ts1
def wFor (Wi : WI) (G : WG) (Wb : WS) : WS := fun D ts => Wi ts fun ds ts1 => forL G Wb D ds ts1
theorem forL_mo {G : WG} {Wb : WS} (g : MoG G) (b : MoS Wb) {D D' : TEnds} (l : D.le D') : ∀ ds ts, forL G Wb D ds ts → forL G Wb D' ds ts
  | [], _, h => l.nx _ h
  | d :: ds, ts, h => g _ _ _ _ (fun ts1 => b { D with nx := forL G Wb D ds, ct := forL G Wb D ds, bk := D.nx } _ _ ⟨forL_mo g b l ds, l.rt, l.nx, forL_mo g b l ds⟩) h
section
variable {K : PySem.W.Frag} {F : Addr → Prop} {ts ts' : TSt} {σ : St} {H H' : Hp} {A A' B : List Addr}
theorem chg_same (h : Core K F ts σ H A) (s : ∀ b o, H b = some o → H' b = some o) : Core K F ts σ H' A ∧ Chg A H A H' ∧ Stay H (fun a => F a ∨ a ∈ A) H' (fun a => F a ∨ a ∈ A) := by
  have g : Chg A H A H' := ⟨fun b o e _ => s b o e, fun x hx => .inl hx⟩
  have st := g.stay h.fa
  obtain ⟨A₀, p, w⟩ := h.rp
  exact ⟨⟨h.nd, h.dj, h.fa' g, A₀, p, w.stay st fun a ha => by
    obtain ⟨xs, e⟩ := w.there a ha
    rw [e, s a _ e]⟩, g, st⟩
end
section
variable {X : Cx} {J : List Nat} {Y : WY} {tg iter : Expr} {body : List Stmt} {pos : Pos} {Wi : WI} {G : WG} {Wb : WS}
theorem ss_for (hp : PassesOwn (model X.prog X.w) X.A X.env X.xe) (hc : X.calm = true) (hi : SI X tg iter Wi) (hg : SG X J tg G) (hb : SSsY Y X J body Wb) (hs : ∀ x, foldedSetIterable iter X.env x = pure x := by intro _; rfl) : SSY Y X J (.For tg iter body [] pos) (wFor Wi G Wb) := by
  refine ⟨fun _ _ _ l => hi.mo _ _ _ fun ds ts1 => forL_mo hg.mo hb.mo l ds ts1, fun F io hj => ps_weak (ps_for hp hc (hi.run F) (hg.run F io hj) (hb.run F io hj) hs) ?_⟩
  rintro D σ H ⟨ts, A, k, p, q⟩
  refine ⟨ts, A, k, hi.mo _ _ _ (fun ds ts1 q I Z H1 A1 k1 g1 wk z => ?_) q⟩
  refine ⟨fun i m σ' H' => m = ds.length - i ∧ i ≤ ds.length ∧ ∃ ts' A', Core X.K F ts' σ' H' A' ∧ Chg A H A' H' ∧ Pin io σ' ∧ Z (fun a => F a ∨ a ∈ A') H' ∧ forL G Wb (endsR X.K Y F io H A D) (ds.drop i) ts', ⟨_, rfl, Nat.zero_le _, ts1, A1, k1, g1, p, z, q⟩, ?_⟩
  rintro i m σ2 H2 ⟨rfl, hi, ts2, A2, k2, g2, p2, z2, q2⟩
  by_cases hlt : i < ds.length
  · have e : ds[i]? = some ds[i] := List.getElem?_eq_getElem hlt
    obtain ⟨go, y⟩ := wk.go _ _ i _ z2 e
    refine .inr ⟨go, fun σ' H' => ∃ ts' A', Core X.K F ts' σ' H' A' ∧ Chg A H A' H' ∧ Pin io σ' ∧ Z (fun a => F a ∨ a ∈ A') H' ∧ forL G Wb (endsR X.K Y F io H A D) (ds.drop (i + 1)) ts', fun σ' H' h => ⟨ds.length - (i + 1), by omega, rfl, by omega, h⟩, fun x H3 hy => ?_⟩
    obtain ⟨same, r⟩ := y x H3 hy
    obtain ⟨k3, g3, st3⟩ := chg_same k2 same
    have z3 := wk.stay _ _ _ _ z2 st3
    rw [List.drop_eq_getElem_cons hlt] at q2
    have k3' : Core X.K (fun a => F a ∨ a ∈ ([] : List Addr)) ts2 σ2 H3 A2 := by
      have e0 : (fun a => F a ∨ a ∈ ([] : List Addr)) = F := by funext a; simp
      rw [e0]; exact k3
    refine ⟨ts2, A2, [], (ds[i], .fz), k3', List.nodup_nil, fun _ h => absurd h List.not_mem_nil, .fz (Rp.stay (fun b o e n => ⟨e, fun x => n ?_⟩) _ _ r), p2, hg.mo _ _ _ _ (fun ts4 q4 σ4 H4 A4 k4 g4 p4 => ?_) q2⟩
    · have x' : F b ∨ b ∈ A2 := x.elim (fun h => h.elim .inl fun h => absurd h List.not_mem_nil) .inr
      refine ⟨x', ?_⟩
      rcases x' with x' | x'
      · obtain ⟨xs, e⟩ := k2.fa b x'
        rw [e]; exact fun h => nomatch h
      · obtain ⟨xs, e⟩ := k2.there b x'
        rw [e]; exact fun h => nomatch h
    · rw [List.append_nil] at g4
      have g5 := (g2.trans g3).trans g4
      have z4 := wk.stay _ _ _ _ z3 (g4.stay k3.fa)
      refine ⟨ts4, A4, k4, p4, hb.mo { endsR X.K Y F io H A D with nx := forL G Wb (endsR X.K Y F io H A D) (ds.drop (i + 1)), ct := forL G Wb (endsR X.K Y F io H A D) (ds.drop (i + 1)), bk := (endsR X.K Y F io H A D).nx } _ _ ⟨?_, ?_, ?_, ?_⟩ q4⟩
      · exact fun ts5 q5 σ5 H5 A5 k5 g6 p5 => ⟨ts5, A5, k5, g5.trans g6, p5, wk.stay _ _ _ _ z4 (g6.stay k4.fa), q5⟩
      · exact fun c t => contR_tr g5
      · exact fun t => contS_tr g5
      · exact fun ts5 q5 σ5 H5 A5 k5 g6 p5 => ⟨ts5, A5, k5, g5.trans g6, p5, wk.stay _ _ _ _ z4 (g6.stay k4.fa), q5⟩
  · have e : i = ds.length := by omega
    subst e
    rw [List.drop_length] at q2
    exact .inl ⟨wk.stop _ _ z2, q2 σ2 H2 A2 k2 g2 p2⟩
end
end TV
end
set_option Elab.async false
set_option linter.all false
set_option maxRecDepth 100000
/-! Part 4: what a loop walks; displays; comprehensions. -/
section
namespace TV
open PySem PySem.Spec L2

section
variable {K : PySem.W.Frag} {F : Addr → Prop} {ts ts' : TSt} {σ : St} {H H' : Hp} {A A' B : List Addr}
theorem rp_new {M : Addr → Prop} {v d} (h : Rp K H M v d) : Rp K H (fun a => M a ∧ H a ≠ none) v d := Rp.stay (stay_less fun _ x => x.1) _ _ h
/-- a value given up -/
theorem give_up {c : TVal} {v} (k : Core K (fun a => F a ∨ a ∈ B) ts σ H A) (fb : ∀ a ∈ B, ¬ F a) (w : Ow K H (fun a => (F a ∨ a ∈ B) ∨ a ∈ A) c.2 v c.1 B) : Rp K H (fun a => F a ∨ a ∈ A) v c.1 :=
  Ow.give _ _ _ _ w (fun a x => x.elim (fun f => .inl (.inl f)) .inr) fun a ha x => x.elim (fb a ha) fun y => k.dj a y (.inr ha)
def seqOf : PyData → Option (List PyData)
  | .list ds => some ds
  | .tuple ds => some ds
  | .str x => some (x.cps.toList.map fun c => .str ⟨#[c]⟩)
  | _ => none
/-- a list, a tuple, a text -/
def iSeq (W : WE) : WI := fun ts Q => W ts fun c ts1 => ∃ ds, seqOf c.1 = some ds ∧ Q ds ts1
theorem wk_list {a : Addr} {ds : List PyData} : Wk K (Itl K a) ds (fun M H => ∃ vs, LstR H M a vs ∧ RpAll K H M vs ds) where
  stay := fun M H M' H' ⟨vs, h, r⟩ s => ⟨vs, h.stay s, RpAll.stay s _ _ r⟩
  go := fun M H i d ⟨vs, h, r⟩ e => by
    obtain ⟨v, hv, rv⟩ := r.get i e
    refine ⟨⟨vs, v, h.sq, hv⟩, ?_⟩
    rintro x H' ⟨rfl, hx⟩
    have e2 := hx vs h.sq
    rw [hv] at e2
    cases e2
    exact ⟨fun _ _ e => e, rp_new rv⟩
  stop := fun M H ⟨vs, h, r⟩ => ⟨vs, h.sq, Nat.le_of_eq r.len⟩
theorem wk_tup {a : Addr} {ds : List PyData} : Wk K (Itt K a) ds (fun M H => ∃ vs, TupR K H M a vs ∧ RpAll K H M vs ds) where
  stay := fun M H M' H' ⟨vs, h, r⟩ s => ⟨vs, h.stay s, RpAll.stay s _ _ r⟩
  go := fun M H i d ⟨vs, h, r⟩ e => by
    obtain ⟨v, hv, rv⟩ := r.get i e
    refine ⟨⟨vs, v, h.sq, hv⟩, ?_⟩
    rintro x H' ⟨rfl, hx⟩
    have e2 := hx vs h.sq
    rw [hv] at e2
    cases e2
    exact ⟨fun _ _ e => e, rp_new rv⟩
  stop := fun M H ⟨vs, h, r⟩ => ⟨vs, h.sq, Nat.le_of_eq r.len⟩
theorem wk_str {x : Str} : Wk K (Its x) (x.cps.toList.map fun c => .str ⟨#[c]⟩) (fun _ _ => True) where
  stay := fun _ _ _ _ _ _ => trivial
  go := fun M H i d _ e => by
    rw [List.getElem?_map, Option.map_eq_some_iff] at e
    obtain ⟨c, hc, rfl⟩ := e
    have hc' : x.cps[i]? = some c := by rw [← Array.getElem?_toList]; exact hc
    refine ⟨(Array.getElem?_eq_some_iff.mp hc').1, ?_⟩
    rintro v H' ⟨rfl, c2, h2, rfl⟩
    rw [hc'] at h2
    cases h2
    exact ⟨fun _ _ e => e, .str _⟩
  stop := fun M H _ => by
    show x.cps.size ≤ _
    simp
theorem wk_rng {lo c : Int} {n : Nat} : Wk K (Itc lo c n) ((List.range n).map fun i => .int (lo + (i : Nat) * c)) (fun _ _ => True) where
  stay := fun _ _ _ _ _ _ => trivial
  go := fun M H i d _ e => by
    rw [List.getElem?_map, Option.map_eq_some_iff] at e
    obtain ⟨j, hj, rfl⟩ := e
    obtain ⟨hl, e2⟩ := List.getElem?_eq_some_iff.mp hj
    rw [List.getElem_range] at e2
    subst e2
    rw [List.length_range] at hl
    refine ⟨hl, ?_⟩
    rintro v H' ⟨rfl, rfl⟩
    exact ⟨fun _ _ e => e, .int _⟩
  stop := fun M H _ => by
    show n ≤ _
    simp
theorem wk_rng1 {lo : Int} {n : Nat} : Wk K (Itr lo n) ((List.range n).map fun i => .int (lo + (i : Nat))) (fun _ _ => True) where
  stay := fun _ _ _ _ _ _ => trivial
  go := fun M H i d _ e => by
    rw [List.getElem?_map, Option.map_eq_some_iff] at e
    obtain ⟨j, hj, rfl⟩ := e
    obtain ⟨hl, e2⟩ := List.getElem?_eq_some_iff.mp hj
    rw [List.getElem_range] at e2
    subst e2
    rw [List.length_range] at hl
    refine ⟨hl, ?_⟩
    rintro v H' ⟨rfl, rfl⟩
    exact ⟨fun _ _ e => e, .int _⟩
  stop := fun M H _ => by
    show n ≤ _
    simp
theorem tup_new {M : Addr → Prop} {T : Addr} {vs ds} (h : H T = none) (r : RpAll K H M vs ds) : Rp K (upd H T (.tup vs)) (fun a => M a ∧ H a ≠ none) (.ref T) (.tuple ds) := by
  refine .tup (.inl ⟨.inl upd_same, fun x => x.2 h⟩) (RpAll.stay (fun b o e n => ⟨?_, fun x => n x.1⟩) _ _ r)
  rw [upd_ne (fun e2 => by rw [e2, h] at e; cases e)]
  exact e
theorem upd_keep {T : Addr} {o : HO} (h : H T = none) : ∀ b x, H b = some x → upd H T o b = some x := fun b x e => by
  rw [upd_ne (fun e2 => by rw [e2, h] at e; cases e)]
  exact e
def enumD (ds : List PyData) : List PyData := (List.range ds.length).zipWith (fun i d => .tuple [.int (i : Nat), d]) ds
theorem enumD_get {ds : List PyData} {i : Nat} {d : PyData} (e : (enumD ds)[i]? = some d) : ∃ x, ds[i]? = some x ∧ d = .tuple [.int (i : Nat), x] := by
  unfold enumD at e
  rw [List.getElem?_zipWith] at e
  by_cases hi : i < ds.length
  · rw [List.getElem?_range hi, List.getElem?_eq_getElem hi] at e
    exact ⟨_, List.getElem?_eq_getElem hi, (Option.some.inj e).symm⟩
  · rw [List.getElem?_eq_none (l := ds) (by omega)] at e
    split at e <;> simp_all
theorem enumD_len (ds : List PyData) : (enumD ds).length = ds.length := by simp [enumD]
theorem wk_enum {a : Addr} {ds : List PyData} : Wk K (Ite K a) (enumD ds) (fun M H => ∃ vs, LstR H M a vs ∧ RpAll K H M vs ds) where
  stay := fun M H M' H' ⟨vs, h, r⟩ s => ⟨vs, h.stay s, RpAll.stay s _ _ r⟩
  go := fun M H i d ⟨vs, h, r⟩ e => by
    obtain ⟨x, hx, rfl⟩ := enumD_get e
    obtain ⟨v, hv, rv⟩ := r.get i hx
    refine ⟨⟨vs, v, h.sq, hv⟩, ?_⟩
    rintro y H' ⟨T, x', rfl, hT, rfl, hk⟩
    have e2 := hk vs h.sq
    rw [hv] at e2
    cases e2
    exact ⟨upd_keep hT, tup_new hT (.cons (.int _) (.cons rv .nil))⟩
  stop := fun M H ⟨vs, h, r⟩ => ⟨vs, h.sq, by rw [enumD_len]; exact Nat.le_of_eq r.len⟩
def zipD (ds es : List PyData) : List PyData := ds.zipWith (fun a b => .tuple [a, b]) es
theorem zipD_get {ds es : List PyData} {i : Nat} {d : PyData} (e : (zipD ds es)[i]? = some d) : ∃ x y, ds[i]? = some x ∧ es[i]? = some y ∧ d = .tuple [x, y] := by
  unfold zipD at e
  rw [List.getElem?_zipWith] at e
  split at e
  · exact ⟨_, _, ‹_›, ‹_›, (Option.some.inj e).symm⟩
  · cases e
theorem wk_zip {a b : Addr} {ds es : List PyData} : Wk K (Itz K a b) (zipD ds es) (fun M H => (∃ vs, LstR H M a vs ∧ RpAll K H M vs ds) ∧ ∃ vs, LstR H M b vs ∧ RpAll K H M vs es) where
  stay := fun M H M' H' ⟨⟨vs, h, r⟩, ws, h2, r2⟩ s => ⟨⟨vs, h.stay s, RpAll.stay s _ _ r⟩, ws, h2.stay s, RpAll.stay s _ _ r2⟩
  go := fun M H i d ⟨⟨vs, h, r⟩, ws, h2, r2⟩ e => by
    obtain ⟨x, y, hx, hy, rfl⟩ := zipD_get e
    obtain ⟨v, hv, rv⟩ := r.get i hx
    obtain ⟨w, hw, rw'⟩ := r2.get i hy
    refine ⟨⟨vs, ws, v, w, h.sq, h2.sq, hv, hw⟩, ?_⟩
    rintro y H' ⟨T, x', y', rfl, hT, rfl, hk, hk2⟩
    have e2 := hk vs h.sq
    rw [hv] at e2
    cases e2
    have e3 := hk2 ws h2.sq
    rw [hw] at e3
    cases e3
    exact ⟨upd_keep hT, tup_new hT (.cons rv (.cons rw' .nil))⟩
  stop := fun M H ⟨⟨vs, h, r⟩, ws, h2, r2⟩ => ⟨vs, ws, h.sq, h2.sq, by
    rw [r.len, r2.len]
    unfold zipD
    rw [List.length_zipWith]
    omega⟩
theorem wk_zipT {a b : Addr} {ds es : List PyData} : Wk K (RZ.ItzT K a b) (zipD ds es) (fun M H => (∃ vs, TupR K H M a vs ∧ RpAll K H M vs ds) ∧ ∃ vs, TupR K H M b vs ∧ RpAll K H M vs es) where
  stay := fun M H M' H' ⟨⟨vs, h, r⟩, ws, h2, r2⟩ s => ⟨⟨vs, h.stay s, RpAll.stay s _ _ r⟩, ws, h2.stay s, RpAll.stay s _ _ r2⟩
  go := fun M H i d ⟨⟨vs, h, r⟩, ws, h2, r2⟩ e => by
    obtain ⟨x, y, hx, hy, rfl⟩ := zipD_get e
    obtain ⟨v, hv, rv⟩ := r.get i hx
    obtain ⟨w, hw, rw'⟩ := r2.get i hy
    refine ⟨⟨vs, ws, v, w, h.sq, h2.sq, hv, hw⟩, ?_⟩
    rintro y H' ⟨T, x', y', rfl, hT, rfl, hk, hk2⟩
    have e2 := hk vs h.sq
    rw [hv] at e2
    cases e2
    have e3 := hk2 ws h2.sq
    rw [hw] at e3
    cases e3
    exact ⟨upd_keep hT, tup_new hT (.cons rv (.cons rw' .nil))⟩
  stop := fun M H ⟨⟨vs, h, r⟩, ws, h2, r2⟩ => ⟨vs, ws, h.sq, h2.sq, by
    rw [r.len, r2.len]
    unfold zipD
    rw [List.length_zipWith]
    omega⟩
theorem wk_rev {a : Addr} {ds : List PyData} : Wk K (Itv K a ds.length) ds.reverse (fun M H => ∃ vs, LstR H M a vs ∧ RpAll K H M vs ds) where
  stay := fun M H M' H' ⟨vs, h, r⟩ s => ⟨vs, h.stay s, RpAll.stay s _ _ r⟩
  go := fun M H i d ⟨vs, h, r⟩ e => by
    have hi : i < ds.length := by
      have := (List.getElem?_eq_some_iff.mp e).1
      rwa [List.length_reverse] at this
    rw [List.getElem?_reverse hi] at e
    obtain ⟨v, hv, rv⟩ := r.get _ e
    refine ⟨⟨hi, vs, v, h.sq, hv⟩, ?_⟩
    rintro x H' ⟨rfl, hx⟩
    have e2 := hx vs h.sq
    rw [hv] at e2
    cases e2
    exact ⟨fun _ _ e => e, rp_new rv⟩
  stop := fun M H ⟨vs, h, r⟩ => by
    show ds.length ≤ ds.reverse.length
    rw [List.length_reverse]
    exact Nat.le_refl _
end

section
variable {X : Cx} {tg e e' e'' : Expr} {pos p : Pos} {W W' W'' : WE} {wa wb wc : WO}
/-- a new iterator over a tracked list or tuple, or over a text -/
theorem pi_seq {te : TE} (h : PE X e te) : PI X tg e (fun σ H R => te σ H fun x H1 => (∃ a xs, x = .ref a ∧ SqL X.K H1 a xs ∧ R (Itl X.K a) H1) ∨ (∃ a xs, x = .ref a ∧ SqT X.K H1 a xs ∧ R (Itt X.K a) H1) ∨ ∃ z, x = .str z ∧ R (Its z) H1) := by
  constructor
  intro pins s σ H R I hh
  refine thn (h.run pins s σ H _ I hh) ?_
  rintro v s1 ⟨x, H1, I1, r1, q⟩
  have via : ∀ {J : It}, (∀ te' : TE, (∀ σ H Q, te' σ H Q = Q x H1) → True) → True := fun _ => trivial
  have one : ∀ (J : It) (tn : Nat → Heap → Prop) (o : Obj) (t' : Nat), Turn X.prog X.w X.K tg J [s1.heap.objs.size] s1.heap.objs.size tn → tn 0 (s1.heap.push o) → R J H1 →
      PIE X pins σ tg R (.ref s1.heap.objs.size) { s1 with heap := s1.heap.push o, toks := t' } := by
    intro J tn o t' T h0 hR
    refine ⟨_, _, _, J, H1, rfl, I1.kept (t' := t') fun b o e => Heap.get?_push_of_some _ e, T, h0, ?_, hR⟩
    intro b hb
    rw [List.mem_singleton] at hb
    subst hb
    exact I1.fpOk (Nat.le_refl _) I1.fresh
  rcases q with ⟨a, xs, rfl, sq, q⟩ | ⟨a, xs, rfl, sq, q⟩ | ⟨z, rfl, q⟩
  · cases r1
    obtain ⟨its, _, pl, _⟩ := I1.list sq
    exact wpAny_pyIter_list pl.isList (one _ _ _ _ (turn_list a _) ⟨_, Heap.get?_push_size _ rfl, rfl, rfl⟩ q)
  · cases r1
    obtain ⟨its, _, pl, _⟩ := I1.tuple sq
    exact wpAny_pyIter_tuple (show s1.heap.IsTuple a its.toArray from pl) (one _ _ _ _ (turn_tuple a _) ⟨_, Heap.get?_push_size _ rfl, rfl, rfl⟩ q)
  · obtain ⟨t, rfl⟩ := r1
    by_cases ha : z.cps.all (· < 128) = true
    · exact wpAny_pyIter_ascii ha (one _ _ _ _ (turn_str _ z t "str_ascii_iterator" (.inl rfl)) ⟨_, Heap.get?_push_size _ rfl, rfl, rfl⟩ q)
    · exact wpAny_pyIter_wide (by simpa using ha) (one _ _ _ _ (turn_str _ z t "str_iterator" (.inr rfl)) ⟨_, Heap.get?_push_size _ rfl, rfl, rfl⟩ q)
theorem si_seq (h : SE X e W) : SI X tg e (iSeq W) := by
  refine ⟨fun _ _ _ k => h.mo _ _ _ fun c t ⟨ds, e, q⟩ => ⟨ds, e, k _ _ q⟩, fun F => pi_weak (pi_seq (h.run F)) ?_⟩
  rintro σ H R ⟨ts, A, k, q⟩
  refine ⟨ts, A, k, h.mo _ _ _ (fun c ts1 ⟨ds, e, q⟩ v H1 A1 B k1 nb fb g1 w => ?_) q⟩
  have r := give_up k1 fb w
  have g2 := g1.less (A'' := A1) fun x hx => List.mem_append_left _ hx
  have k2 := k1.unpend
  obtain ⟨d, m⟩ := c
  cases d with
  | list es =>
    cases e
    cases r with
    | lst h r => exact .inl ⟨_, _, rfl, h.sq, q _ _ _ _ k2 g2 wk_list ⟨_, h, r⟩⟩
  | tuple es =>
    cases e
    cases r with
    | tup h r => exact .inr (.inl ⟨_, _, rfl, h.sq, q _ _ _ _ k2 g2 wk_tup ⟨_, h, r⟩⟩)
  | str x =>
    cases e
    cases r
    exact .inr (.inr ⟨_, rfl, q _ _ _ _ k2 g2 wk_str trivial⟩)
  | _ => cases e
/-! ### ranges -/
def rngOk (i : Int) : Prop := -(2 ^ 62) ≤ i ∧ i < 2 ^ 62
def rngD (lo hi : Int) : List PyData := (List.range (hi - lo).toNat).map fun i => .int (lo + (i : Nat))
def iR1 (wa : WO) : WI := fun ts Q => wa ts fun c ts1 => resP ts1 c fun o => ∃ j, o.1 = .int j ∧ rngOk j ∧ Q (rngD 0 j) ts1
def iR2 (wa wb : WO) : WI := fun ts Q => wa ts fun c ts1 => wb ts1 fun c2 ts2 => resP ts2 c fun o => resP ts2 c2 fun o2 => ∃ i j, o.1 = .int i ∧ o2.1 = .int j ∧ rngOk i ∧ rngOk j ∧ Q (rngD i j) ts2
theorem opn_int {K H M o v j} (h : OpnR K H M o v) (e : o.1 = PyData.int j) : v = .int j := by
  have := h.1
  rw [e] at this
  cases this
  rfl
theorem si_range1 (hg : Gl X "range") (hm : X.mg "range" = none) (ha : SO X e wa) (hs : starEach [e] X.env = [(false, eval e X.env)] := by rfl) : SI X tg (.Call (.Name "range" p) [e] [] pos) (iR1 wa) := by
  refine ⟨fun _ _ _ k => ha.mo _ _ _ fun c t => resP_mo fun o ⟨j, e, l, q⟩ => ⟨j, e, l, k _ _ q⟩, fun F => pi_weak (pi_range1 hg hm (pa_cons (ha.run F) pa_nil (by rw [hs]; rfl)) hs) ?_⟩
  rintro σ H R ⟨ts, A, k, q⟩
  refine ⟨ts, A, k, ha.mo _ _ _ (fun c ts1 q v H1 A1 k1 g1 r1 => ?_) q⟩
  obtain ⟨o, ho, j, e, ⟨l1, l2⟩, q⟩ := cap_res k1 r1 q
  refine ⟨j, by rw [opn_int ho e], l1, l2, ?_⟩
  have e2 : rngD 0 j = (List.range j.toNat).map fun i => PyData.int (0 + (i : Nat)) := by unfold rngD; rw [Int.sub_zero]
  rw [e2] at q
  exact q _ _ _ _ k1 g1 wk_rng1 trivial
theorem si_range2 (hg : Gl X "range") (hm : X.mg "range" = none) (ha : SO X e wa) (hb : SO X e' wb) (hs : starEach [e, e'] X.env = [(false, eval e X.env), (false, eval e' X.env)] := by rfl) (hs2 : starEach [e'] X.env = [(false, eval e' X.env)] := by rfl) : SI X tg (.Call (.Name "range" p) [e, e'] [] pos) (iR2 wa wb) := by
  refine ⟨fun _ _ _ k => ha.mo _ _ _ fun c t => hb.mo _ _ _ fun c2 t2 => resP_mo fun o => resP_mo fun o2 ⟨i, j, e, l, a1, a2, q⟩ => ⟨i, j, e, l, a1, a2, k _ _ q⟩, fun F => pi_weak (pi_range2 hg hm (pa_cons (ha.run F) (pa_cons (hb.run F) pa_nil (by rw [hs2]; rfl)) (by rw [hs, hs2])) hs hs2) ?_⟩
  rintro σ H R ⟨ts, A, k, q⟩
  refine ⟨ts, A, k, ha.mo _ _ _ (fun c ts1 q v H1 A1 k1 g1 r1 => ?_) q⟩
  refine ⟨ts1, A1, k1, hb.mo _ _ _ (fun c2 ts2 q v2 H2 A2 k2 g2 r2 => ?_) q⟩
  obtain ⟨o, ho, q⟩ := cap_res k2 (r1.keep k1 g2) q
  obtain ⟨o2, ho2, i, j, e, e2, ⟨l1, l2⟩, ⟨l3, l4⟩, q⟩ := cap_res k2 r2 q
  exact ⟨i, j, by rw [opn_int ho e, opn_int ho2 e2], ⟨l1, l2, l3, l4⟩, q _ _ _ _ k2 (g1.trans g2) wk_rng1 trivial⟩
/-- a range with a step -/
def iR3 (wa wb wc : WO) : WI := fun ts Q => wa ts fun c ts1 => wb ts1 fun c2 ts2 => wc ts2 fun c3 ts3 => resP ts3 c fun o => resP ts3 c2 fun o2 => resP ts3 c3 fun o3 => ∃ i j l n, o.1 = .int i ∧ o2.1 = .int j ∧ o3.1 = .int l ∧ RgC i j l n ∧
  Q ((List.range n).map fun k => .int (i + (k : Nat) * l)) ts3
theorem si_range3 (hg : Gl X "range") (hm : X.mg "range" = none) (ha : SO X e wa) (hb : SO X e' wb) (hc : SO X e'' wc) (hs : starEach [e, e', e''] X.env = (false, eval e X.env) :: starEach [e', e''] X.env := by rfl) (hs2 : starEach [e', e''] X.env = (false, eval e' X.env) :: starEach [e''] X.env := by rfl)
    (hs3 : starEach [e''] X.env = (false, eval e'' X.env) :: starEach [] X.env := by rfl) (hpl : (backTo pos (starEach [e', e''] X.env)).any (·.1) = false := by rfl) : SI X tg (.Call (.Name "range" p) [e, e', e''] [] pos) (iR3 wa wb wc) := by
  refine ⟨fun _ _ _ k => ha.mo _ _ _ fun c t => hb.mo _ _ _ fun c2 t2 => hc.mo _ _ _ fun c3 t3 => resP_mo fun o => resP_mo fun o2 => resP_mo fun o3 ⟨i, j, l, n, a1, a2, a3, a4, q⟩ => ⟨i, j, l, n, a1, a2, a3, a4, k _ _ q⟩,
    fun F => pi_weak (pi_range3 hg hm (pa_cons (ha.run F) (pa_cons (hb.run F) (pa_cons (hc.run F) pa_nil hs3) hs2) hs) hs hpl) ?_⟩
  rintro σ H R ⟨ts, A, k, q⟩
  refine ⟨ts, A, k, ha.mo _ _ _ (fun c ts1 q v H1 A1 k1 g1 r1 => ?_) q⟩
  refine ⟨ts1, A1, k1, hb.mo _ _ _ (fun c2 ts2 q v2 H2 A2 k2 g2 r2 => ?_) q⟩
  refine ⟨ts2, A2, k2, hc.mo _ _ _ (fun c3 ts3 q v3 H3 A3 k3 g3 r3 => ?_) q⟩
  obtain ⟨o, ho, q⟩ := cap_res k3 ((r1.keep k1 g2).keep k2 g3) q
  obtain ⟨o2, ho2, q⟩ := cap_res k3 (r2.keep k2 g3) q
  obtain ⟨o3, ho3, i, j, l, n, e, e2, e3, rg, q⟩ := cap_res k3 r3 q
  exact ⟨i, j, l, n, by rw [opn_int ho e, opn_int ho2 e2, opn_int ho3 e3], rg, q _ _ _ _ k3 ((g1.trans g2).trans g3) wk_rng trivial⟩
/-! ### enumerate, zip, reversed over lists -/
def iEnumL (W : WE) : WI := fun ts Q => W ts fun c ts1 => ∃ ds, c.1 = .list ds ∧ Q (enumD ds) ts1
theorem si_enum {elts : List Expr} {kk : Nat} {tpos : Pos} (hg : Gl X "enumerate") (hm : X.mg "enumerate" = none) (h : SE X e W) (hs : starEach [e] X.env = [(false, eval e X.env)] := by rfl) : SI X (.Tuple elts kk tpos) (.Call (.Name "enumerate" p) [e] [] pos) (iEnumL W) := by
  refine ⟨fun _ _ _ k => h.mo _ _ _ fun c t ⟨ds, e, q⟩ => ⟨ds, e, k _ _ q⟩, fun F => pi_weak (pi_enum hg hm (pa_cons (h.run F) pa_nil (by rw [hs]; rfl)) hs) ?_⟩
  rintro σ H R ⟨ts, A, k, q⟩
  refine ⟨ts, A, k, h.mo _ _ _ (fun c ts1 ⟨ds, e, q⟩ v H1 A1 B k1 nb fb g1 w => ?_) q⟩
  have r := give_up k1 fb w
  rw [e] at r
  cases r with
  | lst h r => exact ⟨_, _, rfl, h.sq, q _ _ _ _ k1.unpend (g1.less fun x hx => List.mem_append_left _ hx) wk_enum ⟨_, h, r⟩⟩
def zip2 : PyData → PyData → Option (List PyData)
  | .list ds, .list es => some (zipD ds es)
  | .tuple ds, .tuple es => some (zipD ds es)
  | _, _ => none
def iZipL (W W' : WE) : WI := fun ts Q => W ts fun c ts1 => W' ts1 fun c2 ts2 => ∃ ds, zip2 c.1 c2.1 = some ds ∧ Q ds ts2
theorem si_zip {elts : List Expr} {kk : Nat} {tpos : Pos} (hg : Gl X "zip") (hm : X.mg "zip" = none) (h : SE X e W) (h' : SE X e' W') (hs : starEach [e, e'] X.env = (false, eval e X.env) :: starEach [e'] X.env := by rfl) (hs2 : starEach [e'] X.env = (false, eval e' X.env) :: starEach [] X.env := by rfl) (hpl : (backTo pos (starEach [e'] X.env)).any (·.1) = false := by rfl) :
    SI X (.Tuple elts kk tpos) (.Call (.Name "zip" p) [e, e'] [] pos) (iZipL W W') := by
  refine ⟨fun _ _ _ k => h.mo _ _ _ fun c t => h'.mo _ _ _ fun c2 t2 ⟨ds, e, q⟩ => ⟨ds, e, k _ _ q⟩, fun F => pi_weak (RZ.pi_zipA hg hm (pa_cons (h.run F) (pa_cons (h'.run F) pa_nil hs2) hs) hs hpl) ?_⟩
  rintro σ H R ⟨ts, A, k, q⟩
  refine ⟨ts, A, k, h.mo _ _ _ (fun c ts1 q v H1 A1 B k1 nb fb g1 w => ?_) q⟩
  have r := give_up k1 fb w
  have g1' := g1.less (A'' := A1) fun x hx => List.mem_append_left _ hx
  refine ⟨ts1, A1, k1.unpend, h'.mo _ _ _ (fun c2 ts2 ⟨ds, e, q⟩ v2 H2 A2 B2 k2 nb2 fb2 g2 w2 => ?_) q⟩
  have g2' := g2.less (A'' := A2) fun x hx => List.mem_append_left _ hx
  have r2 := give_up k2 fb2 w2
  have r := g2'.rp k1.unpend r
  obtain ⟨d, m⟩ := c
  obtain ⟨d2, m2⟩ := c2
  dsimp only at e r r2
  cases d <;> cases d2 <;> first | (exfalso; simp [zip2] at e; done) | skip
  · cases e
    cases r with
    | lst h r => cases r2 with
      | lst h2 r2 => exact ⟨_, _, _, _, rfl, .inl ⟨h.sq, h2.sq, q _ _ _ _ k2.unpend (g1'.trans g2') wk_zip ⟨⟨_, h, r⟩, _, h2, r2⟩⟩⟩
  · cases e
    cases r with
    | tup h r => cases r2 with
      | tup h2 r2 => exact ⟨_, _, _, _, rfl, .inr ⟨h.sq, h2.sq, q _ _ _ _ k2.unpend (g1'.trans g2') wk_zipT ⟨⟨_, h, r⟩, _, h2, r2⟩⟩⟩
def iRevL (W : WE) : WI := fun ts Q => W ts fun c ts1 => ∃ ds, c.1 = .list ds ∧ Q ds.reverse ts1
theorem si_rev (hg : Gl X "reversed") (hm : X.mg "reversed" = none) (h : SE X e W) (hs : starEach [e] X.env = [(false, eval e X.env)] := by rfl) : SI X tg (.Call (.Name "reversed" p) [e] [] pos) (iRevL W) := by
  refine ⟨fun _ _ _ k => h.mo _ _ _ fun c t ⟨ds, e, q⟩ => ⟨ds, e, k _ _ q⟩, fun F => pi_weak (pi_reversed hg hm (pa_cons (h.run F) pa_nil (by rw [hs]; rfl)) hs) ?_⟩
  rintro σ H R ⟨ts, A, k, q⟩
  refine ⟨ts, A, k, h.mo _ _ _ (fun c ts1 ⟨ds, e, q⟩ v H1 A1 B k1 nb fb g1 w => ?_) q⟩
  have r := give_up k1 fb w
  rw [e] at r
  cases r with
  | lst h r =>
    refine ⟨_, _, rfl, h.sq, ?_⟩
    rw [r.len]
    exact q _ _ _ _ k1.unpend (g1.less fun x hx => List.mem_append_left _ hx) wk_rev ⟨_, h, r⟩
end

/-! ### displays -/
/-- the values of a display, from the left; what they own is kept -/
abbrev WV := TSt → (List TVal → TSt → Prop) → Prop
def contV (K : PySem.W.Frag) (F : Addr → Prop) (σ : St) (H : Hp) (A : List Addr) (Q : List V → Hp → Prop) (cs : List TVal) (ts' : TSt) : Prop :=
  ∀ vs H' A' B, Core K (fun a => F a ∨ a ∈ B) ts' σ H' A' → B.Nodup → (∀ a ∈ B, ¬ F a) → Chg A H (A' ++ B) H' → OwL K H' (fun a => (F a ∨ a ∈ B) ∨ a ∈ A') vs cs B → Q vs H'
def rdV (K : PySem.W.Frag) (F : Addr → Prop) (W : WV) : TA := fun σ H Q => ∃ ts A, Core K F ts σ H A ∧ W ts (contV K F σ H A Q)
structure SV (X : Cx) (es : List Expr) (W : WV) : Prop where
  mo : Mo W
  run : ∀ F, PA X es (rdV X.K F W)
def vNil : WV := fun ts Q => Q [] ts
def vCons (We : WE) (W : WV) : WV := fun ts Q => We ts fun c ts1 => W ts1 fun cs ts2 => Q (c :: cs) ts2
theorem Chg.new {A H A' H'} (g : Chg A H A' H') {p : Addr} (h : H' p = none) : p ∈ A ∨ H p = none := by
  by_cases hn : p ∈ A
  · exact .inl hn
  · refine .inr ?_
    cases e : H p with
    | none => rfl
    | some o => rw [g.ext p o e hn] at h; cases h
theorem core_or {K : PySem.W.Frag} {F : Addr → Prop} {ts : TSt} {σ : St} {H : Hp} {A B1 B2 : List Addr} (k : Core K (fun a => (F a ∨ a ∈ B1) ∨ a ∈ B2) ts σ H A) : Core K (fun a => F a ∨ a ∈ B1 ++ B2) ts σ H A := by
  have e : (fun a => (F a ∨ a ∈ B1) ∨ a ∈ B2) = fun a => F a ∨ a ∈ B1 ++ B2 := by
    funext a
    rw [List.mem_append, or_assoc]
  rw [← e]
  exact k
section
variable {X : Cx} {e : Expr} {es : List Expr} {pos : Pos} {We : WE} {W : WV}
theorem sv_nil : SV X [] vNil := by
  refine ⟨fun _ _ _ k => k _ _, fun F => pa_weak pa_nil ?_⟩
  rintro σ H Q ⟨ts, A, k, q⟩
  have k' : Core X.K (fun a => F a ∨ a ∈ ([] : List Addr)) ts σ H A := by
    have e0 : (fun a => F a ∨ a ∈ ([] : List Addr)) = F := by funext a; simp
    rw [e0]; exact k
  exact q [] H A [] k' List.nodup_nil (fun _ h => absurd h List.not_mem_nil) ⟨fun _ _ e _ => e, fun x hx => .inl (by simpa using hx)⟩ .nil
theorem sv_cons (h1 : SE X e We) (h2 : SV X es W) (hs : starEach (e :: es) X.env = (false, eval e X.env) :: starEach es X.env := by rfl) : SV X (e :: es) (vCons We W) := by
  refine ⟨fun _ _ _ k => h1.mo _ _ _ fun _ _ => h2.mo _ _ _ fun _ _ => k _ _, fun F => ⟨fun pos pins s σ H Q I q => ?_⟩⟩
  obtain ⟨ts, A, k, q⟩ := q
  -- the second part is run with what the first one owns set aside
  have P : PA X (e :: es) (fun σ H Q => rdE X.K F We σ H fun x H1 => ∃ F', rdV X.K F' W σ H1 fun xs H2 => Q (x :: xs) H2) := by
    refine pa_weak (pa_cons (h1.run F) (t := fun σ H Q => ∃ F', rdV X.K F' W σ H Q) ⟨fun pos pins s σ H Q I ⟨F', z⟩ => (h2.run F').run pos pins s σ H Q I z⟩ hs) fun σ H Q z => z
  refine P.run pos pins s σ H Q I ⟨ts, A, k, h1.mo _ _ _ (fun c ts1 q v H1 A1 B1 k1 nb1 fb1 g1 w1 => ?_) q⟩
  refine ⟨fun a => F a ∨ a ∈ B1, ts1, A1, k1, h2.mo _ _ _ (fun cs ts2 q vs H2 A2 B2 k2 nb2 fb2 g2 w2 => ?_) q⟩
  have g2' := g2.less (A'' := A2) fun x hx => List.mem_append_left _ hx
  have w1' := Chg.ow k1 (A' := A2 ++ B2) g2 w1
  have e1 : (fun a => ((F a ∨ a ∈ B1) ∨ a ∈ B2) ∨ a ∈ A2) = fun a => (F a ∨ a ∈ B1 ++ B2) ∨ a ∈ A2 := by
    funext a
    rw [List.mem_append, or_assoc (a := F a)]
  have e2 : (fun a => (F a ∨ a ∈ B1) ∨ a ∈ A2 ++ B2) = fun a => (F a ∨ a ∈ B1 ++ B2) ∨ a ∈ A2 := by
    funext a
    simp only [List.mem_append, or_assoc]
    refine propext ⟨fun h => h.imp id (Or.imp id Or.symm), fun h => h.imp id (Or.imp id Or.symm)⟩
  rw [e2] at w1'
  rw [e1] at w2
  refine q (v :: vs) H2 A2 (B1 ++ B2) (core_or k2) (List.nodup_append.mpr ⟨nb1, nb2, fun a ha b hb e => fb2 b hb (.inr (e ▸ ha))⟩) (fun a ha => (List.mem_append.mp ha).elim (fb1 a) fun y f => fb2 a y (.inl f)) ?_ (.cons w1' w2)
  refine ⟨fun b o e n => ?_, fun x hx => ?_⟩
  · refine g2.ext b o (g1.ext b o e n) fun h => ?_
    rcases g1.sub b (List.mem_append_left _ h) with h | h
    · exact n h
    · rw [h] at e; cases e
  · have step : x ∈ A1 ++ B1 ∨ H1 x = none := by
      simp only [List.mem_append] at hx ⊢
      rcases hx with hx | hx | hx
      · exact (g2.sub x (List.mem_append_left _ hx)).imp .inl id
      · exact .inl (.inr hx)
      · exact (g2.sub x (List.mem_append_right _ hx)).imp .inl id
    rcases step with h | h
    · exact g1.sub x h
    · by_cases hn : x ∈ A
      · exact .inl hn
      · refine .inr ?_
        cases e : H x with
        | none => rfl
        | some o => rw [g1.ext x o e hn] at h; cases h
/-- every list in it is mine (or there is none) -/
def clean (c : TVal) : Bool := decide (c.2 = .full) || noList c.1
def cleans (cs : List TVal) : Bool := cs.all clean
def dsp (cs : List TVal) : Own := if cleans cs then .full else .top
def eTup (W : WV) : WE := fun ts Q => W ts fun cs ts1 => cs.length ≤ sizeLine ∧ Q (.tuple (cs.map (·.1)), if cleans cs then .full else .fz) ts1
def eLst (W : WV) : WE := fun ts Q => W ts fun cs ts1 => cs.length ≤ sizeLine ∧ Q (.list (cs.map (·.1)), dsp cs) ts1
theorem OwL.fulls {K H M} : ∀ {vs cs B}, OwL K H M vs cs B → cleans cs = true → ∃ B', OwAll K H M vs (cs.map (·.1)) B' ∧ B' = B
  | _, _, _, .nil, _ => ⟨[], .nil, rfl⟩
  | _, _, _, .cons (v := v) (c := c) (A := A) h r, e => by
    unfold cleans at e
    rw [List.all_cons, Bool.and_eq_true] at e
    obtain ⟨B', r', rfl⟩ := OwL.fulls r e.2
    have h' : Ow K H M .full v c.1 A := by
      by_cases hm : c.2 = .full
      · rw [hm] at h; exact h
      · have e1 := e.1
        unfold clean at e1
        rw [decide_eq_false hm, Bool.false_or] at e1
        obtain ⟨h2, rfl⟩ := Ow.flat _ _ _ _ h e1
        exact Rp.full _ _ h2 e1
    exact ⟨_, .cons h' r', rfl⟩
theorem OwL.give {K H} {M M' : Addr → Prop} : ∀ {vs cs B}, OwL K H M vs cs B → (∀ a, M' a → M a) → (∀ a ∈ B, ¬ M' a) → RpAll K H M' vs (cs.map (·.1))
  | _, _, _, .nil, _, _ => .nil
  | _, _, _, .cons h r, l, n => .cons (Ow.give _ _ _ _ h l fun a ha => n a (List.mem_append_left _ ha)) (OwL.give r l fun a ha => n a (List.mem_append_right _ ha))
/-- the state behind a new object that holds what was pending -/
theorem laid_core {K : PySem.W.Frag} {F : Addr → Prop} {ts : TSt} {σ : St} {H H₀ : Hp} {A A₀ B : List Addr} {p : Addr} {o : HO} (k : Core K (fun a => F a ∨ a ∈ B) ts σ H A) (g : Chg A₀ H₀ (A ++ B) H) (hp : H p = none) :
    Core K (fun a => F a ∨ a ∈ B) ts σ (upd H p o) A ∧ Chg A₀ H₀ (A ++ B) (upd H p o) ∧ Stay H (fun a => (F a ∨ a ∈ B) ∨ a ∈ A) (upd H p o) (fun a => (F a ∨ a ∈ B) ∨ a ∈ A) ∧ ¬ ((F p ∨ p ∈ B) ∨ p ∈ A) := by
  obtain ⟨k', g', s⟩ := chg_same k (upd_keep (o := o) hp)
  refine ⟨k', ⟨fun b x e n => upd_keep hp b x (g.ext b x e n), g.sub⟩, s, fun h => ?_⟩
  rcases h with h | h
  · obtain ⟨xs, e⟩ := k.fa p h
    rw [hp] at e; cases e
  · obtain ⟨xs, e⟩ := k.there p h
    rw [hp] at e; cases e
theorem se_tup {x1} (h : SV X es W) : SE X (.Tuple es x1 pos) (eTup W) := by
  refine ⟨fun _ _ _ k => h.mo _ _ _ fun cs t ⟨l, q⟩ => ⟨l, k _ _ q⟩, fun F => pe_weak (pe_tup (h.run F)) ?_⟩
  rintro σ H Q ⟨ts, A, k, q⟩
  refine ⟨ts, A, k, h.mo _ _ _ (fun cs ts1 ⟨l, q⟩ vs H1 A1 B k1 nb fb g1 w => ⟨by rw [w.len]; exact l, fun p hp => ?_⟩) q⟩
  obtain ⟨k2, g2, s, np⟩ := laid_core (o := .tup vs) k1 g1 hp
  by_cases hc : cleans cs = true
  · rw [if_pos hc] at q
    obtain ⟨B', r, rfl⟩ := w.fulls hc
    refine q (.ref p) _ A1 B' k2 nb fb g2 (.fullT (.inl ⟨.inl upd_same, np⟩) (OwAll.stay s _ _ _ r fun a ha => ?_))
    obtain ⟨xs, e⟩ := r.there _ _ _ a ha
    rw [e, upd_keep hp _ _ e]
  · rw [if_neg hc] at q
    have r := w.give (M' := fun a => F a ∨ a ∈ A1) (fun a x => x.elim (fun f => .inl (.inl f)) .inr) fun a ha x => x.elim (fb a ha) fun y => k1.dj a y (.inr ha)
    have k3 := k2.unpend
    have g3 := g2.less (A'' := A1) fun x hx => List.mem_append_left _ hx
    have np' : ¬ (F p ∨ p ∈ A1) := fun h => np (h.elim (fun f => .inl (.inl f)) .inr)
    have r' : RpAll X.K (upd H1 p (.tup vs)) (fun a => F a ∨ a ∈ A1) vs (cs.map (·.1)) := RpAll.stay (fun b o e n => ⟨upd_keep hp b o e, n⟩) _ _ r
    exact pure_contE k3 g3 q (.ref p) _ [] (.of_rp (.tup (.inl ⟨.inl upd_same, np'⟩) r'))
theorem lst_out {K : PySem.W.Frag} {F : Addr → Prop} {ts : TSt} {σ : St} {H H₀ : Hp} {A A₀ B : List Addr} {p : Addr} {vs : List V} {cs : List TVal} {Q : VK} (k : Core K (fun a => F a ∨ a ∈ B) ts σ H A) (nb : B.Nodup) (fb : ∀ a ∈ B, ¬ F a) (g : Chg A₀ H₀ (A ++ B) H)
    (w : OwL K H (fun a => (F a ∨ a ∈ B) ∨ a ∈ A) vs cs B) (hp : H p = none) (q : contE K F σ H₀ A₀ Q (.list (cs.map (·.1)), dsp cs) ts) : Q (.ref p) (upd H p (.lst vs)) := by
  obtain ⟨k2, g2, s, np⟩ := laid_core (o := .lst vs) k g hp
  have npB : p ∉ B := fun h => np (.inl (.inr h))
  have npA : p ∉ A := fun h => np (.inr h)
  have npF : ¬ F p := fun h => np (.inl (.inl h))
  unfold dsp at q
  by_cases hc : cleans cs = true
  · rw [if_pos hc] at q
    obtain ⟨B', r, rfl⟩ := w.fulls hc
    have s2 : Stay H (fun a => (F a ∨ a ∈ B') ∨ a ∈ A) (upd H p (.lst vs)) (fun a => (F a ∨ a ∈ p :: B') ∨ a ∈ A) := fun b o e n => by
      refine ⟨upd_keep hp b o e, fun x => ?_⟩
      rcases x with (x | x) | x
      · exact n (.inl (.inl x))
      · rcases List.mem_cons.mp x with rfl | x
        · rw [hp] at e; cases e
        · exact n (.inl (.inr x))
      · exact n (.inr x)
    refine q (.ref p) _ A (p :: B') ?_ (List.nodup_cons.mpr ⟨npB, nb⟩) (fun a ha => (List.mem_cons.mp ha).elim (fun e => e ▸ npF) (fb a)) ⟨g2.ext, fun x hx => ?_⟩ (.fullL upd_same (OwAll.stay s2 _ _ _ r fun a ha => ?_))
    · obtain ⟨A₁, p1, w1⟩ := k.rp
      refine ⟨k.nd, fun a ha f => ?_, fun a f => ?_, A₁, p1, w1.stay s2 fun a ha => ?_⟩
      · rcases f with f | f
        · exact k.dj a ha (.inl f)
        · rcases List.mem_cons.mp f with rfl | f
          · exact npA ha
          · exact k.dj a ha (.inr f)
      · rcases f with f | f
        · obtain ⟨xs, e⟩ := k.fa a (.inl f)
          exact ⟨xs, upd_keep hp _ _ e⟩
        · rcases List.mem_cons.mp f with rfl | f
          · exact ⟨_, upd_same⟩
          · obtain ⟨xs, e⟩ := k.fa a (.inr f)
            exact ⟨xs, upd_keep hp _ _ e⟩
      · obtain ⟨xs, e⟩ := w1.there a ha
        rw [e, upd_keep hp _ _ e]
    · rcases List.mem_append.mp hx with hx | hx
      · exact g.sub x (List.mem_append_left _ hx)
      · rcases List.mem_cons.mp hx with rfl | hx
        · exact g.new hp
        · exact g.sub x (List.mem_append_right _ hx)
    · obtain ⟨xs, e⟩ := r.there _ _ _ a ha
      rw [e, upd_keep hp _ _ e]
  · rw [if_neg hc] at q
    have r := w.give (M' := fun a => F a ∨ a ∈ A) (fun a x => x.elim (fun f => .inl (.inl f)) .inr) fun a ha x => x.elim (fb a ha) fun y => k.dj a y (.inr ha)
    have k3 := k.unpend
    have g3 := g.less (A'' := A) fun x hx => List.mem_append_left _ hx
    refine pure_contE k3 g3 q (.ref p) _ [p] ⟨upd_keep hp, by simp, fun a ha => by rw [List.mem_singleton] at ha; subst ha; exact hp, .topL upd_same (RpAll.stay (fun b o e n => ⟨upd_keep hp b o e, fun x => ?_⟩) _ _ r)⟩
    rcases x with x | x
    · exact n x
    · rw [List.mem_singleton] at x
      subst x
      rw [hp] at e; cases e
end
end TV
end
set_option Elab.async false
set_option linter.all false
set_option maxRecDepth 100000
/-! Part 5: list comprehensions. -/
section
namespace TV
open PySem PySem.Spec L2

def wipeT (ts : TSt) : List Nat → TSt
  | [] => ts
  | v :: vs => (wipeT ts vs).set v none
def shO : Option (Option TVal) → Option TVal
  | some (some c) => some (c.1, .fz)
  | _ => none
/-- the slots vs as they were in ts0, shared -/
def backT (ts0 ts : TSt) : List Nat → TSt
  | [] => ts
  | v :: vs => (backT ts0 ts vs).set v (shO ts0[v]?)
def Shd (K : PySem.W.Frag) (H : Hp) (M : Addr → Prop) (σ : St) (ts0 : TSt) (vs : List Nat) : Prop := ∀ i ∈ vs, ∀ c, ts0[i]? = some (some c) → ∃ v, σ[i]? = some (some v) ∧ Rp K H M v c.1
section
variable {K : PySem.W.Frag} {F : Addr → Prop} {ts ts' ts0 : TSt} {σ σ' : St} {H H' : Hp} {A A' B : List Addr} {M M' : Addr → Prop} {vs : List Nat}
theorem set_noop {α : Type} {l : List α} {i : Nat} {x : α} (h : l[i]? = some x) : l.set i x = l := by
  apply List.ext_getElem?
  intro j
  by_cases hj : i = j
  · subst hj
    rw [List.getElem?_set_self (List.getElem?_eq_some_iff.mp h).1, h]
  · rw [List.getElem?_set_ne hj]
theorem set_out {α : Type} {l : List α} {i : Nat} {x : α} (h : ¬ i < l.length) : l.set i x = l := by
  apply List.ext_getElem?
  intro j
  by_cases hj : i = j
  · subst hj
    rw [List.getElem?_eq_none (by rw [List.length_set]; omega), List.getElem?_eq_none (by omega)]
  · rw [List.getElem?_set_ne hj]
theorem wipeT_len : ∀ vs, (wipeT ts vs).length = ts.length
  | [] => rfl
  | v :: vs => by unfold wipeT; rw [List.length_set, wipeT_len vs]
theorem wipeT_cons (v : Nat) (vs : List Nat) : wipeT ts (v :: vs) = (wipeT ts vs).set v none := rfl
theorem wipeT_at {i : Nat} : ∀ {vs : List Nat}, i ∈ vs → i < ts.length → (wipeT ts vs)[i]? = some none
  | v :: vs, h, hl => by
    unfold wipeT
    by_cases e : v = i
    · subst e
      rw [List.getElem?_set_self (by rw [wipeT_len]; exact hl)]
    · rw [List.getElem?_set_ne e]
      exact wipeT_at ((List.mem_cons.mp h).resolve_left fun z => e z.symm) hl
theorem wipeT_ne {i : Nat} : ∀ {vs : List Nat}, i ∉ vs → (wipeT ts vs)[i]? = ts[i]?
  | [], _ => rfl
  | v :: vs, h => by
    have h2 : v ≠ i := fun e => by subst e; exact h List.mem_cons_self
    rw [wipeT_cons, List.getElem?_set_ne h2]
    exact wipeT_ne fun z => h (List.mem_cons_of_mem _ z)
theorem OwS.reval {i : Nat} {x : Option V} : ∀ {σ ts A} (i : Nat) (x : Option V), OwS K H M σ ts A → ts[i]? = some none → OwS K H M (σ.set i x) ts A
  | _, _, _, _, _, .nil, e => by simp at e
  | _, _, _, 0, _, .sn h, _ => .sn h
  | _, _, _, 0, _, .sv _ _, e => by simp at e
  | _, _, _, i + 1, _, .sn h, e => .sn (OwS.reval (i := 0) (x := none) i _ h (by simpa using e))
  | _, _, _, i + 1, _, .sv h r, e => .sv h (OwS.reval (i := 0) (x := none) i _ r (by simpa using e))
theorem OwS.wipe : ∀ {vs : List Nat}, OwS K H M σ ts A → (∀ i ∈ vs, i < ts.length → ts[i]? = some none) → OwS K H M (wipe σ vs) ts A
  | [], h, _ => h
  | v :: vs, h, n => by
    have h1 := OwS.wipe (vs := vs) h fun i hi => n i (List.mem_cons_of_mem _ hi)
    unfold L2.wipe
    by_cases hl : v < ts.length
    · exact OwS.reval (i := 0) (x := none) v none h1 (n v List.mem_cons_self hl)
    · rw [set_out (by rw [h1.len]; exact hl)]
      exact h1
theorem OwS.unwipe : ∀ {vs : List Nat}, OwS K H M (L2.wipe σ vs) ts A → (∀ i ∈ vs, i < ts.length → ts[i]? = some none) → OwS K H M σ ts A
  | [], h, _ => h
  | v :: vs, h, n => by
    refine OwS.unwipe (vs := vs) ?_ fun i hi => n i (List.mem_cons_of_mem _ hi)
    unfold L2.wipe at h
    by_cases hl : v < ts.length
    · have hl2 : v < (L2.wipe σ vs).length := by
        have := h.len
        rw [List.length_set] at this
        omega
      have h2 := OwS.reval (i := 0) (x := none) v (L2.wipe σ vs)[v] h (n v List.mem_cons_self hl)
      rw [List.set_set, set_noop (List.getElem?_eq_getElem hl2)] at h2
      exact h2
    · rw [set_out (by have := h.len; rw [List.length_set] at this; omega)] at h
      exact h
/-- the slots vs emptied; what stood there is shared -/
theorem core_wipe : ∀ {vs : List Nat}, Core K F ts σ H A → ∃ A', Core K F (wipeT ts vs) σ H A' ∧ (∀ a ∈ A', a ∈ A) ∧ Shd K H (fun a => F a ∨ a ∈ A') σ ts vs
  | [], k => ⟨A, k, fun _ => id, fun _ h => absurd h List.not_mem_nil⟩
  | v :: vs, k => by
    obtain ⟨A1, k1, s1, sh⟩ := core_wipe (vs := vs) k
    by_cases hv : v ∈ vs
    · refine ⟨A1, ?_, s1, fun i hi => ?_⟩
      · have e : wipeT ts (v :: vs) = wipeT ts vs := by
          rw [wipeT_cons]
          by_cases hl : v < ts.length
          · exact set_noop (wipeT_at hv hl)
          · exact set_out (by rw [wipeT_len]; exact hl)
        rw [e]; exact k1
      · rcases List.mem_cons.mp hi with rfl | hi
        · exact sh _ hv
        · exact sh _ hi
    · have e1 : (wipeT ts vs)[v]? = ts[v]? := wipeT_ne hv
      cases hc : ts[v]? with
      | none =>
        refine ⟨A1, ?_, s1, fun i hi => ?_⟩
        · have e : wipeT ts (v :: vs) = wipeT ts vs := by
            rw [wipeT_cons]
            have hc' := List.getElem?_eq_none_iff.mp hc
            exact set_out (by rw [wipeT_len]; omega)
          rw [e]; exact k1
        · rcases List.mem_cons.mp hi with rfl | hi
          · intro c e; rw [hc] at e; cases e
          · exact sh _ hi
      | some o =>
        cases o with
        | none =>
          refine ⟨A1, ?_, s1, fun i hi => ?_⟩
          · have e : wipeT ts (v :: vs) = wipeT ts vs := by
              rw [wipeT_cons]
              exact set_noop (by rw [e1, hc])
            rw [e]; exact k1
          · rcases List.mem_cons.mp hi with rfl | hi
            · intro c e; rw [hc] at e; cases e
            · exact sh _ hi
        | some c =>
          obtain ⟨u, B, A2, h1, h2, hp, k2, nb, fb⟩ := k1.take (e1.trans hc)
          have sub : ∀ a ∈ A2, a ∈ A1 := fun a ha => hp.mem_iff.mpr (List.mem_append_right _ ha)
          refine ⟨A2, k2.unpend, fun a ha => s1 a (sub a ha), fun i hi => ?_⟩
          rcases List.mem_cons.mp hi with rfl | hi
          · intro c' e
            rw [hc] at e
            cases e
            refine ⟨u, h1, Ow.give _ _ _ _ h2 (fun a x => x.imp id (sub a)) fun a ha x => ?_⟩
            exact x.elim (fb a ha) fun y => k2.dj a y (.inr ha)
          · intro c' e
            obtain ⟨w, q1, q2⟩ := sh i hi c' e
            exact ⟨w, q1, Rp.stay (stay_less fun a x => x.imp id (sub a)) _ _ q2⟩
theorem core_wiped (k : Core K F (wipeT ts vs) σ H A) : Core K F (wipeT ts vs) (wipe σ vs) H A := by
  obtain ⟨A₀, p, w⟩ := k.rp
  exact ⟨k.nd, k.dj, k.fa, A₀, p, w.wipe fun i hi hl => wipeT_at hi (by rwa [wipeT_len] at hl)⟩
theorem Shd.stay (h : Shd K H M σ ts0 vs) (s : Stay H M H' M') : Shd K H' M' σ ts0 vs := fun i hi c e => by
  obtain ⟨v, h1, h2⟩ := h i hi c e
  exact ⟨v, h1, Rp.stay s _ _ h2⟩
theorem backT_len : ∀ vs, (backT ts0 ts vs).length = ts.length
  | [] => rfl
  | v :: vs => by unfold backT; rw [List.length_set, backT_len vs]
theorem core_back : ∀ {vs : List Nat}, Core K F ts σ H A → (∀ i ∈ vs, i < ts.length → ts[i]? = some none) → Shd K H (fun a => F a ∨ a ∈ A) σ ts0 vs → Core K F (backT ts0 ts vs) σ H A
  | [], k, _, _ => k
  | v :: vs, k, n, sh => by
    have k1 := core_back (vs := vs) k (fun i hi => n i (List.mem_cons_of_mem _ hi)) fun i hi => sh i (List.mem_cons_of_mem _ hi)
    show Core K F ((backT ts0 ts vs).set v (shO ts0[v]?)) σ H A
    by_cases hl : v < ts.length
    · obtain ⟨A₀, p, w⟩ := k1.rp
      -- the slot is empty, or it holds the same already
      have e0 : (backT ts0 ts vs)[v]? = some none ∨ (backT ts0 ts vs)[v]? = some (shO ts0[v]?) := by
        have : ∀ {us : List Nat}, (∀ i ∈ us, i < ts.length → ts[i]? = some none) → (backT ts0 ts us)[v]? = some none ∨ (backT ts0 ts us)[v]? = some (shO ts0[v]?) := by
          intro us
          induction us with
          | nil => intro _; exact .inl (n v List.mem_cons_self hl)
          | cons u us ih =>
            intro hu
            unfold backT
            by_cases e : u = v
            · subst e
              rw [List.getElem?_set_self (by rw [backT_len]; exact hl)]
              exact .inr rfl
            · rw [List.getElem?_set_ne e]
              exact ih fun i hi => hu i (List.mem_cons_of_mem _ hi)
        exact this fun i hi => n i (List.mem_cons_of_mem _ hi)
      rcases e0 with e0 | e0
      · cases hc : shO ts0[v]? with
        | none => rw [set_noop e0]; exact k1
        | some c =>
          have hc2 : ∃ c', ts0[v]? = some (some c') ∧ c = (c'.1, .fz) := by
            unfold shO at hc
            split at hc
            · rename_i c' e
              exact ⟨c', e, (Option.some.inj hc).symm⟩
            · cases hc
          obtain ⟨c', e1, rfl⟩ := hc2
          obtain ⟨u, h1, h2⟩ := sh v List.mem_cons_self c' e1
          obtain ⟨A2, w2, p2⟩ := w.back (c := (c'.1, .fz)) (B := []) v e0 h1 (.fz h2)
          exact ⟨k1.nd, k1.dj, k1.fa, A2, p2.trans p, w2⟩
      · rw [set_noop e0]; exact k1
    · rw [set_out (by rw [backT_len]; exact hl)]
      exact k1
end

theorem core_less {K : PySem.W.Frag} {F F' : Addr → Prop} {ts : TSt} {σ : St} {H : Hp} {A : List Addr} (k : Core K F ts σ H A) (l : ∀ a, F' a → F a) : Core K F' ts σ H A := by
  obtain ⟨A₀, p, h⟩ := k.rp
  exact ⟨k.nd, fun a ha f => k.dj a ha (l a f), fun a f => k.fa a (l a f), A₀, p, h.stay (stay_less fun a x => x.imp (l a) id) fun _ _ => rfl⟩
theorem OwL.append {K H M} : ∀ {vs ws : List V} {cs es : List TVal} {A B}, OwL K H M vs cs A → OwL K H M ws es B → OwL K H M (vs ++ ws) (cs ++ es) (A ++ B)
  | _, _, _, _, _, _, .nil, s => s
  | _, _, _, _, _, _, .cons h r, s => by rw [List.append_assoc]; exact .cons h (OwL.append r s)
/-! ### the comprehension -/
def sAcc (n : Nat) : Prop := n < sizeLine
def compL (G : WG) (Tt : WT) (We : WE) (vs : List Nat) (Q : List TVal → TSt → Prop) : List PyData → List TVal → TSt → Prop
  | [], acc, ts => Q acc ts
  | d :: ds, acc, ts => G (d, .fz) ts fun ts1 => Tt ts1 fun b ts2 => if b = true then We ts2 fun c ts3 => acc.length < sizeLine ∧ compL G Tt We vs Q ds (acc ++ [c]) (wipeT ts3 vs) else compL G Tt We vs Q ds acc (wipeT ts2 vs)
def eLc (Wi : WI) (G : WG) (Tt : WT) (We : WE) (vs : List Nat) : WE := fun ts Q => Wi ts fun ds ts1 => compL G Tt We vs (fun acc ts2 => Q (.list (acc.map (·.1)), dsp acc) (backT ts1 ts2 vs)) ds [] (wipeT ts1 vs)
theorem compL_mo {G : WG} {Tt : WT} {We : WE} {vs : List Nat} (g : MoG G) (t : Mo Tt) (w : Mo We) {Q Q' : List TVal → TSt → Prop} (k : ∀ c t, Q c t → Q' c t) : ∀ ds acc ts, compL G Tt We vs Q ds acc ts → compL G Tt We vs Q' ds acc ts
  | [], _, _, h => k _ _ h
  | d :: ds, acc, ts, h => g _ _ _ _ (fun ts1 => t _ _ _ fun b ts2 q => by
      cases b with
      | true => exact w _ _ _ (fun c ts3 ⟨l, q⟩ => ⟨l, compL_mo g t w k ds _ _ q⟩) q
      | false => exact compL_mo g t w k ds _ _ q) h
/-- a clause's tests -/
structure STs (X : Cx) (ifs : List Expr) (W : WT) : Prop where
  mo : Mo W
  run : ∀ F, PTs X ifs (rdT X.K F W)
theorem pts_weak {X : Cx} {ifs : List Expr} {t t' : TT} (h : PTs X ifs t) (k : ∀ σ H Q, t' σ H Q → t σ H Q) : PTs X ifs t' := ⟨fun pins s σ H Q I q => h.run pins s σ H Q I (k σ H Q q)⟩
def tTrue : WT := fun ts Q => Q true ts
theorem sts_nil {X : Cx} : STs X [] tTrue := ⟨fun _ _ _ k => k _ _, fun F => pts_weak pts_nil fun σ H Q ⟨ts, A, k, q⟩ => q H A k Chg.refl⟩
theorem sts_one {X : Cx} {c : Expr} {W : WT} (h : ST X c W) : STs X [c] W := ⟨h.mo, fun F => pts_one (h.run F)⟩
/-- the slots that a comprehension's block may not change -/
def others (n : Nat) (vs : List Nat) : List Nat := (List.range n).filter fun i => decide (i ∉ vs)
theorem wipe_eq {n : Nat} {vs : List Nat} {σ τ : St} (h1 : σ.length = n) (h2 : τ.length = n) (p : ∀ i ∈ others n vs, τ[i]? = (wipe σ vs)[i]?) : wipe τ vs = wipe σ vs := by
  apply List.ext_getElem?
  intro i
  by_cases hi : i < n
  · by_cases hv : i ∈ vs
    · have z : ∀ {ρ : St} {us : List Nat}, i ∈ us → i < ρ.length → (wipe ρ us)[i]? = some none := by
        intro ρ us
        induction us with
        | nil => intro h; cases h
        | cons u us ih =>
          intro h hl
          unfold wipe
          by_cases e : u = i
          · subst e
            rw [List.getElem?_set_self (by rw [wipe_length]; exact hl)]
          · rw [List.getElem?_set_ne e]
            exact ih ((List.mem_cons.mp h).resolve_left fun z => e z.symm) hl
      rw [z hv (by omega), z hv (by omega)]
    · have z : ∀ {ρ : St} {us : List Nat}, i ∉ us → (wipe ρ us)[i]? = ρ[i]? := by
        intro ρ us
        induction us with
        | nil => intro _; rfl
        | cons u us ih =>
          intro h
          have h2 : u ≠ i := fun e => by subst e; exact h List.mem_cons_self
          show ((wipe ρ us).set u none)[i]? = _
          rw [List.getElem?_set_ne h2]
          exact ih fun x => h (List.mem_cons_of_mem _ x)
      rw [z hv, p i (List.mem_filter.mpr ⟨List.mem_range.mpr hi, decide_eq_true hv⟩)]
  · rw [List.getElem?_eq_none (by rw [wipe_length]; omega), List.getElem?_eq_none (by rw [wipe_length]; omega)]
/-- readings for whatever is set aside -/
def rdGx (K : PySem.W.Frag) (J : List Nat) (G : WG) : TG := fun v σ H Q => ∃ F io, io.map (·.1) = J ∧ rdG K F io G v σ H fun σ' H' => σ'.length = σ.length → Q σ' H'
def rdTx (K : PySem.W.Frag) (W : WT) : TT := fun σ H Q => ∃ F, rdT K F W σ H Q
def rdEx (K : PySem.W.Frag) (W : WE) : TE := fun σ H Q => ∃ F, rdE K F W σ H Q
section
variable {X : Cx} {J : List Nat} {tg e : Expr} {ifs : List Expr} {G : WG} {Wt : WT} {We : WE}
theorem SG.ex (h : SG X J tg G) : PG X tg (rdGx X.K J G) := ⟨fun pins s σ H v u Q I r ⟨F, io, hj, q⟩ =>
  thn ((h.run F io hj).run pins s σ H v u _ I r q) fun _ _ ⟨σ', H', I', q'⟩ => ⟨σ', H', I', q' (I'.len.trans I.len.symm)⟩⟩
theorem STs.ex (h : STs X ifs Wt) : PTs X ifs (rdTx X.K Wt) := ⟨fun pins s σ H Q I ⟨F, q⟩ => (h.run F).run pins s σ H Q I q⟩
theorem SE.ex (h : SE X e We) : PE X e (rdEx X.K We) := ⟨fun pins s σ H Q I ⟨F, q⟩ => (h.run F).run pins s σ H Q I q⟩
end
section
variable {K : PySem.W.Frag} {F : Addr → Prop} {Wi : WI} {G : WG} {Tt : WT} {We : WE} {vs : List Nat} {n : Nat} {σ : St} {H : Hp} {Q : VK}
theorem rd_lc (mi : Mo Wi) (mg : MoG G) (mt : Mo Tt) (me : Mo We) (hn : σ.length = n) (h : rdE K F (eLc Wi G Tt We vs) σ H Q) : tLc (rdI K F Wi) (rdGx K (others n vs) G) (rdTx K Tt) (rdEx K We) vs σ H Q := by
  obtain ⟨ts, A, k, q⟩ := h
  refine ⟨ts, A, k, mi _ _ _ (fun ds ts1 q I Z H1 A1 k1 g1 wk z => ?_) q⟩
  intro D hD
  obtain ⟨A2, k2, s2, sh⟩ := core_wipe (vs := vs) k1
  have z2 := wk.stay _ _ _ _ z (stay_less fun a (x : F a ∨ a ∈ A2) => x.imp id (s2 a))
  have g2 : Chg A H A2 H1 := g1.less s2
  have k3 := core_wiped k2
  -- the new list is mine, aside
  have nF : ¬ F D := fun f => by
    obtain ⟨xs, e⟩ := k.fa' g1 D f
    rw [hD] at e; cases e
  have nA : ∀ a ∈ A2, a ≠ D := fun a ha e => by
    obtain ⟨xs, e'⟩ := k3.there a ha
    rw [e, hD] at e'; cases e'
  refine ⟨fun i m H' => m = ds.length - i ∧ i ≤ ds.length ∧ ∃ ts' A' B accV acc, Core K (fun a => F a ∨ a ∈ D :: B) ts' (wipe σ vs) H' A' ∧ (∀ i ∈ vs, i < ts'.length → ts'[i]? = some none) ∧ (D :: B).Nodup ∧ (∀ a ∈ D :: B, ¬ F a) ∧ Chg A H (A' ++ (D :: B)) H' ∧
    H' D = some (.lst accV) ∧ OwL K H' (fun a => (F a ∨ a ∈ D :: B) ∨ a ∈ A') accV acc B ∧ Z (fun a => (F a ∨ a ∈ D :: B) ∨ a ∈ A') H' ∧ Shd K H' (fun a => (F a ∨ a ∈ D :: B) ∨ a ∈ A') σ ts1 vs ∧
    compL G Tt We vs (fun acc ts2 => contE K F σ H A Q (.list (acc.map (·.1)), dsp acc) (backT ts1 ts2 vs)) (ds.drop i) acc ts',
    ⟨ds.length, by simp, Nat.zero_le _, wipeT ts1 vs, A2, [], [], [], ?_, fun i hi hl => wipeT_at hi (by rwa [wipeT_len] at hl), by simp, fun a ha => by rw [List.mem_singleton] at ha; subst ha; exact nF, ⟨fun b o e n => upd_keep hD b o (g2.ext b o e n), fun x hx => ?_⟩, upd_same, .nil, ?_, ?_, q⟩, ?_⟩
  · obtain ⟨A₀, p, w⟩ := k3.rp
    refine ⟨k3.nd, fun a ha f => ?_, fun a f => ?_, A₀, p, w.stay (fun b o e n => ⟨upd_keep hD b o e, fun x => ?_⟩) fun a ha => ?_⟩
    · rcases f with f | f
      · exact k3.dj a ha f
      · rw [List.mem_singleton] at f
        exact nA a ha f
    · rcases f with f | f
      · obtain ⟨xs, e⟩ := k3.fa a f
        exact ⟨xs, upd_keep hD _ _ e⟩
      · rw [List.mem_singleton] at f
        subst f
        exact ⟨_, upd_same⟩
    · rcases x with (x | x) | x
      · exact n (.inl x)
      · rw [List.mem_singleton] at x
        subst x
        rw [hD] at e; cases e
      · exact n (.inr x)
    · obtain ⟨xs, e⟩ := w.there a ha
      rw [e, upd_keep hD _ _ e]
  · rcases List.mem_append.mp hx with hx | hx
    · exact g2.sub x hx
    · rw [List.mem_singleton] at hx
      subst hx
      exact g2.new hD
  · refine wk.stay _ _ _ _ z2 fun b o e n => ⟨upd_keep hD b o e, fun x => ?_⟩
    rcases x with (x | x) | x
    · exact n (.inl x)
    · rw [List.mem_singleton] at x
      subst x
      rw [hD] at e; cases e
    · exact n (.inr x)
  · refine sh.stay fun b o e n => ⟨upd_keep hD b o e, fun x => ?_⟩
    rcases x with (x | x) | x
    · exact n (.inl x)
    · rw [List.mem_singleton] at x
      subst x
      rw [hD] at e; cases e
    · exact n (.inr x)
  · rintro i m H3 ⟨rfl, hi, ts3, A3, B, accV, acc, k3, n3, nd3, f3, g3, hD3, w3, z3, sh3, q3⟩
    by_cases hlt : i < ds.length
    · have e : ds[i]? = some ds[i] := List.getElem?_eq_getElem hlt
      obtain ⟨go, y⟩ := wk.go _ _ i _ z3 e
      rw [List.drop_eq_getElem_cons hlt] at q3
      -- the state at the next turn
      let Nx : Hp → Prop := fun H' => ∃ ts' A' B accV acc, Core K (fun a => F a ∨ a ∈ D :: B) ts' (wipe σ vs) H' A' ∧ (∀ i ∈ vs, i < ts'.length → ts'[i]? = some none) ∧ (D :: B).Nodup ∧ (∀ a ∈ D :: B, ¬ F a) ∧ Chg A H (A' ++ (D :: B)) H' ∧
        H' D = some (.lst accV) ∧ OwL K H' (fun a => (F a ∨ a ∈ D :: B) ∨ a ∈ A') accV acc B ∧ Z (fun a => (F a ∨ a ∈ D :: B) ∨ a ∈ A') H' ∧ Shd K H' (fun a => (F a ∨ a ∈ D :: B) ∨ a ∈ A') σ ts1 vs ∧
        compL G Tt We vs (fun acc ts2 => contE K F σ H A Q (.list (acc.map (·.1)), dsp acc) (backT ts1 ts2 vs)) (ds.drop (i + 1)) acc ts'
      refine .inr ⟨go, Nx, fun H' h => ⟨ds.length - (i + 1), by omega, rfl, by omega, h⟩, fun x H4 hy => ?_⟩
      obtain ⟨same, r⟩ := y x H4 hy
      obtain ⟨k4, g4, st4⟩ := chg_same k3 same
      have hfl : ∀ a, (F a ∨ a ∈ D :: B) ∨ a ∈ A3 → H3 a ≠ none := fun a h => by
        rcases h with h | h
        · obtain ⟨xs, e⟩ := k3.fa a h
          rw [e]; exact fun h => nomatch h
        · obtain ⟨xs, e⟩ := k3.there a h
          rw [e]; exact fun h => nomatch h
      have k4' : Core K (fun a => (F a ∨ a ∈ D :: B) ∨ a ∈ ([] : List Addr)) ts3 (wipe σ vs) H4 A3 := by
        have e0 : (fun a => (F a ∨ a ∈ D :: B) ∨ a ∈ ([] : List Addr)) = fun a => F a ∨ a ∈ D :: B := by funext a; simp
        rw [e0]; exact k4
      -- what is carried to the turn's end: from a state behind (A3, H4), with what the item owns
      have carry : ∀ (ts5 : TSt) (σ5 : St) (H5 : Hp) (A5 : List Addr), Core K (fun a => F a ∨ a ∈ D :: B) ts5 σ5 H5 A5 → Chg A3 H4 A5 H5 → wipe σ5 vs = wipe σ vs →
          compL G Tt We vs (fun acc ts2 => contE K F σ H A Q (.list (acc.map (·.1)), dsp acc) (backT ts1 ts2 vs)) (ds.drop (i + 1)) acc (wipeT ts5 vs) → Nx H5 := by
        intro ts5 σ5 H5 A5 k5 g5 e5 q5
        obtain ⟨A6, k6, s6, _⟩ := core_wipe (vs := vs) k5
        have k7 := core_wiped k6
        rw [e5] at k7
        have g6 : Chg A3 H4 A6 H5 := g5.less s6
        have st : Stay H3 (fun a => (F a ∨ a ∈ D :: B) ∨ a ∈ A3) H5 (fun a => (F a ∨ a ∈ D :: B) ∨ a ∈ A6) := fun b o e n => by
          obtain ⟨e1, n1⟩ := st4 b o e n
          exact g6.stay k4.fa b o e1 n1
        have same2 : ∀ a ∈ D :: B, H5 a = H3 a := fun a ha => by
          obtain ⟨xs, e⟩ := k3.fa a (.inr ha)
          rw [e, g6.ext a _ (same a _ e) fun h => k4.dj a h (.inr ha)]
        refine ⟨wipeT ts5 vs, A6, B, accV, acc, k7, fun j hj hl => wipeT_at hj (by rwa [wipeT_len] at hl), nd3, f3, ?_, (same2 D List.mem_cons_self).trans hD3, w3.stay st fun a ha => same2 a (List.mem_cons_of_mem _ ha), wk.stay _ _ _ _ z3 st, sh3.stay st, q5⟩
        refine (g3.trans ?_)
        refine ⟨fun b o e n => g6.ext b o (same b o e) fun h => n (List.mem_append_left _ h), fun x hx => ?_⟩
        rcases List.mem_append.mp hx with hx | hx
        · rcases g6.sub x hx with h | h
          · exact .inl (List.mem_append_left _ h)
          · refine .inr ?_
            cases e : H3 x with
            | none => rfl
            | some o => rw [same x o e] at h; cases h
        · exact .inl (List.mem_append_right _ hx)
      refine ⟨fun a => F a ∨ a ∈ D :: B, (others n vs).map (fun j => (j, ((wipe σ vs)[j]?).join)), ?_, ts3, A3, [], (ds[i], .fz), k4', List.nodup_nil, fun _ h => absurd h List.not_mem_nil, .fz (Rp.stay (fun b o e nn => ⟨e, fun x => nn ?_⟩) _ _ r), ?_, mg _ _ _ _ (fun ts5 q5 σ5 H5 A5 k5 g5 p5 => ?_) q3⟩
      · rw [List.map_map]
        exact List.map_id _
      · have x' : (F b ∨ b ∈ D :: B) ∨ b ∈ A3 := x.elim (fun h => h.elim .inl fun h => absurd h List.not_mem_nil) .inr
        exact ⟨x', hfl b x'⟩
      · intro p hp
        obtain ⟨j, hj, rfl⟩ := List.mem_map.mp hp
        have hjn : j < n := List.mem_range.mp (List.mem_filter.mp hj).1
        rw [List.getElem?_eq_getElem (by rw [wipe_length, hn]; exact hjn)]
        rfl
      · rw [List.append_nil] at g5
        intro l5'
        have e5 : wipe σ5 vs = wipe σ vs := by
          have l5 : σ5.length = n := by rw [l5', wipe_length]; exact hn
          refine wipe_eq hn l5 fun j hj => ?_
          have hp := p5 (j, ((wipe σ vs)[j]?).join) (List.mem_map.mpr ⟨j, hj, rfl⟩)
          have hjn : j < n := List.mem_range.mp (List.mem_filter.mp hj).1
          rw [hp, List.getElem?_eq_getElem (show j < (wipe σ vs).length by rw [wipe_length, hn]; exact hjn)]
          rfl
        refine ⟨e5, fun a => F a ∨ a ∈ D :: B, ts5, A5, k5, mt _ _ _ (fun b ts6 q6 H6 A6 k6 g6 => ?_) q5⟩
        cases b with
        | false =>
          rw [if_neg Bool.false_ne_true]
          rw [if_neg Bool.false_ne_true] at q6
          exact carry ts6 σ5 H6 A6 k6 (g5.trans g6) e5 q6
        | true =>
          rw [if_pos rfl]
          rw [if_pos rfl] at q6
          refine ⟨fun a => F a ∨ a ∈ D :: B, ts6, A6, k6, me _ _ _ (fun c ts7 ⟨l7, q7⟩ v H7 A7 B7 k7 nb7 fb7 g7 w7 => ?_) q6⟩
          obtain ⟨A8, k8, s8, _⟩ := core_wipe (vs := vs) k7
          have k9 := core_wiped k8
          rw [e5] at k9
          have g56 : Chg A3 H4 A6 H6 := g5.trans g6
          -- what stood untouched at the turn's start stands so still
          have ext7 : ∀ b o, H3 b = some o → b ∉ A3 → H7 b = some o := fun b o e nb => by
            refine g7.ext b o (g56.ext b o (same b o e) nb) fun h => ?_
            rcases g56.sub b h with h | h
            · exact nb h
            · rw [same b o e] at h; cases h
          have sub7 : ∀ x ∈ A7 ++ B7, x ∈ A3 ∨ H3 x = none := fun x hx => by
            have none4 : H4 x = none → H3 x = none := fun h => by
              cases e : H3 x with
              | none => rfl
              | some o => rw [same x o e] at h; cases h
            rcases g7.sub x hx with h | h
            · exact (g56.sub x h).imp id none4
            · exact (g56.new h).imp id none4
          have frm7 : ∀ a ∈ D :: B, H7 a = H3 a := fun a ha => by
            obtain ⟨xs, e⟩ := k3.fa a (.inr ha)
            rw [e, ext7 a _ e fun h => k3.dj a h (.inr ha)]
          have hD7 : H7 D = some (.lst accV) := (frm7 D List.mem_cons_self).trans hD3
          have nDB : D ∉ B := (List.nodup_cons.mp nd3).1
          have nB7 : ∀ a ∈ B7, a ∉ D :: B := fun a ha h => fb7 a ha (.inr h)
          have eM : (fun a => (F a ∨ a ∈ D :: B) ∨ a ∈ B7) = fun a => F a ∨ a ∈ D :: (B ++ B7) := by
            funext a
            rw [or_assoc, ← List.cons_append, List.mem_append]
          have st7 : Stay H7 (fun a => ((F a ∨ a ∈ D :: B) ∨ a ∈ B7) ∨ a ∈ A7) (upd H7 D (.lst (accV ++ [v]))) (fun a => (F a ∨ a ∈ D :: (B ++ B7)) ∨ a ∈ A8) := fun b o e n => by
            have nD : b ≠ D := fun e => n (.inl (.inl (.inr (e ▸ List.mem_cons_self))))
            refine ⟨by rw [upd_ne nD]; exact e, fun x => n ?_⟩
            rcases x with x | x
            · exact .inl ((congrFun eM b).mpr x)
            · exact .inr (s8 b x)
          have st3 : Stay H3 (fun a => (F a ∨ a ∈ D :: B) ∨ a ∈ A3) (upd H7 D (.lst (accV ++ [v]))) (fun a => (F a ∨ a ∈ D :: (B ++ B7)) ∨ a ∈ A8) := fun b o e n => by
            have nD : b ≠ D := fun e => n (.inl (.inr (e ▸ List.mem_cons_self)))
            have nA3 : b ∉ A3 := fun h => n (.inr h)
            refine ⟨by rw [upd_ne nD]; exact ext7 b o e nA3, fun x => ?_⟩
            have no : b ∈ A7 ++ B7 → False := fun h => by
              rcases sub7 b h with h | h
              · exact nA3 h
              · rw [h] at e; cases e
            rcases x with x | x
            · rcases (congrFun eM b).mpr x with x | x
              · exact n (.inl x)
              · exact no (List.mem_append_right _ x)
            · exact no (List.mem_append_left _ (s8 b x))
          have frm8 : ∀ a ∈ B, (upd H7 D (.lst (accV ++ [v]))) a = H3 a := fun a ha => by
            rw [upd_ne (fun e => nDB (by rw [← e]; exact ha))]
            exact frm7 a (List.mem_cons_of_mem _ ha)
          refine ⟨accV, hD7, by rw [w3.len]; exact l7, wipeT ts7 vs, A8, B ++ B7, accV ++ [v], acc ++ [c], ?_, fun j hj hl => wipeT_at hj (by rwa [wipeT_len] at hl), ?_, ?_, ?_, upd_same, ?_, wk.stay _ _ _ _ z3 st3, sh3.stay st3, q7⟩
          · rw [eM] at k9
            obtain ⟨A₉, p9, w9⟩ := k9.rp
            have st9 : Stay H7 (fun a => (F a ∨ a ∈ D :: (B ++ B7)) ∨ a ∈ A8) (upd H7 D (.lst (accV ++ [v]))) (fun a => (F a ∨ a ∈ D :: (B ++ B7)) ∨ a ∈ A8) := fun b o e n =>
              ⟨by rw [upd_ne (fun e2 => n (.inl (.inr (by rw [e2]; exact List.mem_cons_self))))]; exact e, n⟩
            refine ⟨k9.nd, k9.dj, fun a f => ?_, A₉, p9, w9.stay st9 fun a ha => ?_⟩
            · by_cases e : a = D
              · subst e
                exact ⟨_, upd_same⟩
              · rw [upd_ne e]
                exact k9.fa a f
            · rw [upd_ne fun e => k9.dj a (p9.mem_iff.mp ha) (.inr (by rw [e]; exact List.mem_cons_self))]
          · refine List.nodup_cons.mpr ⟨fun h => ?_, List.nodup_append.mpr ⟨(List.nodup_cons.mp nd3).2, nb7, fun a ha b hb e => nB7 b hb (e ▸ List.mem_cons_of_mem _ ha)⟩⟩
            rcases List.mem_append.mp h with h | h
            · exact nDB h
            · exact nB7 D h List.mem_cons_self
          · intro a ha
            rcases List.mem_cons.mp ha with rfl | ha
            · exact nF
            · rcases List.mem_append.mp ha with ha | ha
              · exact f3 a (List.mem_cons_of_mem _ ha)
              · exact fun f => fb7 a ha (.inl f)
          · refine g3.trans ⟨fun b o e n => ?_, fun x hx => ?_⟩
            · rw [upd_ne (fun e2 => n (List.mem_append_right _ (by rw [e2]; exact List.mem_cons_self)))]
              exact ext7 b o e fun h => n (List.mem_append_left _ h)
            · have lift : x ∈ A7 ++ B7 → x ∈ A3 ++ D :: B ∨ H3 x = none := fun h => (sub7 x h).imp (List.mem_append_left _) id
              rcases List.mem_append.mp hx with hx | hx
              · exact lift (List.mem_append_left _ (s8 x hx))
              · rcases List.mem_cons.mp hx with rfl | hx
                · exact .inl (List.mem_append_right _ List.mem_cons_self)
                · rcases List.mem_append.mp hx with hx | hx
                  · exact .inl (List.mem_append_right _ (List.mem_cons_of_mem _ hx))
                  · exact lift (List.mem_append_right _ hx)
          · have w8 := w3.stay st3 frm8
            have w9 : Ow K (upd H7 D (.lst (accV ++ [v]))) (fun a => (F a ∨ a ∈ D :: (B ++ B7)) ∨ a ∈ A8) c.2 v c.1 B7 := Ow.stay st7 _ _ _ _ w7 fun a ha => by
              rw [upd_ne (fun e => nB7 a ha (by rw [e]; exact List.mem_cons_self))]
            have := w8.append (.cons w9 .nil)
            rwa [List.append_nil] at this
    · have e : i = ds.length := by omega
      subst e
      rw [List.drop_length] at q3
      refine .inl ⟨wk.stop _ _ z3, ?_⟩
      -- back in the def's own state
      have k5 : Core K (fun a => F a ∨ a ∈ D :: B) ts3 σ H3 A3 := by
        obtain ⟨A₀, p, w⟩ := k3.rp
        exact ⟨k3.nd, k3.dj, k3.fa, A₀, p, w.unwipe n3⟩
      have k6 := core_back k5 n3 sh3
      by_cases hc : cleans acc = true
      · have q4 : contE K F σ H A Q (.list (acc.map (·.1)), .full) (backT ts1 ts3 vs) := by
          have e : dsp acc = .full := by unfold dsp; rw [if_pos hc]
          rw [← e]; exact q3
        obtain ⟨B', r, rfl⟩ := w3.fulls hc
        exact q4 (.ref D) H3 A3 (D :: B') k6 nd3 f3 g3 (.fullL hD3 r)
      · have q4 : contE K F σ H A Q (.list (acc.map (·.1)), .top) (backT ts1 ts3 vs) := by
          have e : dsp acc = .top := by unfold dsp; rw [if_neg hc]
          rw [← e]; exact q3
        have k7 : Core K (fun a => F a ∨ a ∈ [D]) (backT ts1 ts3 vs) σ H3 A3 := core_less k6 fun a x => x.imp id fun h => by
          rw [List.mem_singleton] at h
          rw [h]
          exact List.mem_cons_self
        refine q4 (.ref D) H3 A3 [D] k7 (by simp) (fun a ha => ?_) (g3.less fun x hx => ?_) (.topL hD3 (w3.give (fun a x => ?_) fun a ha x => ?_))
        · rw [List.mem_singleton] at ha
          subst ha
          exact nF
        · rcases List.mem_append.mp hx with hx | hx
          · exact List.mem_append_left _ hx
          · rw [List.mem_singleton] at hx
            subst hx
            exact List.mem_append_right _ List.mem_cons_self
        · rcases x with (x | x) | x
          · exact .inl (.inl x)
          · rw [List.mem_singleton] at x
            subst x
            exact .inl (.inr List.mem_cons_self)
          · exact .inr x
        · rcases x with (x | x) | x
          · exact f3 a (List.mem_cons_of_mem _ ha) x
          · rw [List.mem_singleton] at x
            subst x
            exact (List.nodup_cons.mp nd3).1 ha
          · exact k3.dj a x (.inr (List.mem_cons_of_mem _ ha))
end

section
variable {X : Cx} {elt tg iter : Expr} {ifs : List Expr} {scope : Scope} {own : List (Str × Nat)} {pos : Pos} {Wi : WI} {G : WG} {Tt : WT} {We : WE} {vs : List Nat} {n : Nat}
theorem lc_mo (mi : Mo Wi) (mg : MoG G) (mt : Mo Tt) (me : Mo We) : Mo (eLc Wi G Tt We vs) := fun _ _ _ k => mi _ _ _ fun ds ts1 => compL_mo mg mt me (fun acc ts2 => k _ _) ds _ _
/-- [elt for tg in iter if ..] -/
theorem se_lc (hc : X.calm = true) (hN : X.N.Nodup) (hn : X.N.length = n) (hv : own.map (·.2) = vs) (hi : SI X tg iter Wi) (ok : BlkOk X.N X.env.scope scope own)
    (hg : ∀ (s : Shared) (H : Hp) (C : Addr) (cl : List (Str × Addr)) (fp : List Addr), SG (X.blk s H scope (compEnvC scope cl C X.env) fp) (others n vs) tg G)
    (ht : ∀ (s : Shared) (H : Hp) (C : Addr) (cl : List (Str × Addr)) (fp : List Addr), STs (X.blk s H scope (compEnvC scope cl C X.env) fp) ifs Tt)
    (he : ∀ (s : Shared) (H : Hp) (C : Addr) (cl : List (Str × Addr)) (fp : List Addr), SE (X.blk s H scope (compEnvC scope cl C X.env) fp) elt We)
    (hs : ∀ x, foldedSetIterable iter X.env x = pure x := by intro _; rfl) : SE X (.ListComp elt [⟨tg, iter, ifs, 0⟩] scope pos) (eLc Wi G Tt We vs) := by
  have mg : MoG G := (hg X.s_0 (fun _ => none) 0 [] []).mo
  have mt : Mo Tt := (ht X.s_0 (fun _ => none) 0 [] []).mo
  have me : Mo We := (he X.s_0 (fun _ => none) 0 [] []).mo
  subst hv
  refine ⟨lc_mo hi.mo mg mt me, fun F => ⟨fun pins s σ H Q I q => ?_⟩⟩
  exact (pe_lc (te := rdEx X.K We) (tt := rdTx X.K Tt) (g := rdGx X.K (others n (own.map (·.2))) G) hc hN (hi.run F) ok (fun s H C cl fp => (hg s H C cl fp).ex) (fun s H C cl fp => (ht s H C cl fp).ex) (fun s H C cl fp => (he s H C cl fp).ex) hs).run pins s σ H Q I (rd_lc hi.mo mg mt me (I.len.trans hn) q)
/-- name = [..] on one line -/
theorem ss_setLc {J : List Nat} {Y : WY} {i : Nat} {y : Str} {py spos : Pos} (hc : X.calm = true) (hN : X.N.Nodup) (hn : X.N.length = n) (hv : own.map (·.2) = vs) (hy : X.N[i]? = some y) (hyl : X.env.scope.names.lookup y = some .local) (hj : i ∉ J)
    (hsw : swapsWith (.ListComp elt [⟨tg, iter, ifs, 0⟩] scope pos) (some (.Name y py)) spos.line X.env = pure true) (hi : SI X tg iter Wi) (ok : BlkOk X.N X.env.scope scope own)
    (hg : ∀ (s : Shared) (H : Hp) (C : Addr) (cl : List (Str × Addr)) (fp : List Addr), SG (X.blk s H scope (compEnvC scope cl C X.env) fp) (others n vs) tg G)
    (ht : ∀ (s : Shared) (H : Hp) (C : Addr) (cl : List (Str × Addr)) (fp : List Addr), STs (X.blk s H scope (compEnvC scope cl C X.env) fp) ifs Tt)
    (he : ∀ (s : Shared) (H : Hp) (C : Addr) (cl : List (Str × Addr)) (fp : List Addr), SE (X.blk s H scope (compEnvC scope cl C X.env) fp) elt We)
    (hs : ∀ x, foldedSetIterable iter X.env x = pure x := by intro _; rfl) : SSY Y X J (.Assign [.Name y py] (.ListComp elt [⟨tg, iter, ifs, 0⟩] scope pos) spos) (wAsg (eLc Wi G Tt We vs) (gN i)) := by
  have mg : MoG G := (hg X.s_0 (fun _ => none) 0 [] []).mo
  have mt : Mo Tt := (ht X.s_0 (fun _ => none) 0 [] []).mo
  have me : Mo We := (he X.s_0 (fun _ => none) 0 [] []).mo
  subst hv
  have ml := lc_mo (vs := own.map (·.2)) hi.mo mg mt me
  have gm : MoG (gN i) := fun c ts Q Q' k h => ⟨h.1, k _ h.2⟩
  refine ⟨asg_mo ml gm, fun F io hio => ⟨fun pins s σ H D I q => ?_⟩⟩
  refine (ps_setLc (te := rdEx X.K We) (tt := rdTx X.K Tt) (g := rdGx X.K (others n (own.map (·.2))) G) hc hN hy hyl hsw (hi.run F) ok (fun s H C cl fp => (hg s H C cl fp).ex) (fun s H C cl fp => (ht s H C cl fp).ex) (fun s H C cl fp => (he s H C cl fp).ex) hs).run pins s σ H D I ?_
  obtain ⟨ts, A, k, p, q⟩ := q
  refine rd_lc hi.mo mg mt me (I.len.trans hn) ⟨ts, A, k, ml _ _ _ (fun c ts1 q v H1 A1 B k1 nb fb g1 w => ?_) q⟩
  obtain ⟨hl, q⟩ := q
  obtain ⟨A', k', sub⟩ := k1.put nb fb hl w
  exact q _ H1 A' k' (g1.trans ⟨fun _ _ e _ => e, fun x hx => .inl (List.mem_append.mpr (sub x hx))⟩) (pin_set hio hj p)
end
end TV
end
set_option Elab.async false
set_option linter.all false
set_option maxRecDepth 100000
/-! Part 6: lists changed in place; calls; a def's promise. -/
section
namespace TV
open PySem PySem.Spec L2

theorem upd_at {H : Hp} {b l : Addr} {o x : HO} (e : H b = some o) (n : b ≠ l) : upd H l x b = some o := by rw [upd_ne n]; exact e
section
variable {K : PySem.W.Frag} {F : Addr → Prop} {ts : TSt} {σ : St} {H H' : Hp} {A A1 B B' E : List Addr} {i : Nat} {c c' : TVal} {v : V}
/-- what a slot owns is written anew -/
theorem write_back (k : Core K (fun a => F a ∨ a ∈ E) ts σ H A) (nE : E.Nodup) (fE : ∀ a ∈ E, ¬ F a) (e : ts[i]? = some (some c)) (hσ : σ[i]? = some (some v)) (hp : A.Perm (B ++ A1)) (k1 : Core K (fun a => (F a ∨ a ∈ E) ∨ a ∈ B) (ts.set i none) σ H A1)
    (hB : ∀ b o, H b = some o → b ∉ B → H' b = some o) (hl : ∀ a ∈ B', a ∈ B ∨ a ∈ E) (nd : B'.Nodup) (q : Ow K H' (fun a => F a ∨ a ∈ B' ++ A1) c'.2 v c'.1 B') :
    ∃ A', Core K F (ts.set i (some c')) σ H' A' ∧ (∀ a ∈ A', a ∈ B' ++ A1) ∧ Chg (A ++ E) H A' H' := by
  have hil : i < ts.length := (List.getElem?_eq_some_iff.mp e).1
  obtain ⟨A₀, p, w⟩ := k1.rp
  have dB : ∀ a ∈ A1, a ∉ B' := fun a ha hb => k1.dj a ha ((hl a hb).elim .inr fun h => .inl (.inr h))
  have st : Stay H (fun a => ((F a ∨ a ∈ E) ∨ a ∈ B) ∨ a ∈ A1) H' (fun a => F a ∨ a ∈ B' ++ A1) := fun b o e n => by
    refine ⟨hB b o e fun h => n (.inl (.inr h)), fun x => n ?_⟩
    rcases x with x | x
    · exact .inl (.inl (.inl x))
    · rcases List.mem_append.mp x with x | x
      · exact (hl b x).elim (fun h => .inl (.inr h)) fun h => .inl (.inl (.inr h))
      · exact .inr x
  obtain ⟨A2, w2, p2⟩ := (w.stay st fun a ha => by
    obtain ⟨xs, e⟩ := w.there a ha
    rw [e, hB a _ e fun h => k1.dj a (p.mem_iff.mp ha) (.inr h)]).back (c := c') i (by rw [List.getElem?_set_self hil]) hσ q
  rw [List.set_set] at w2
  refine ⟨B' ++ A1, ⟨List.nodup_append.mpr ⟨nd, k1.nd, fun a ha b hb e => dB b hb (e ▸ ha)⟩, fun a ha f => ?_, fun a f => ?_, A2, p2.trans (List.Perm.append_left _ p), w2⟩, fun _ => id, ⟨fun b o e n => ?_, fun x hx => ?_⟩⟩
  · rcases List.mem_append.mp ha with ha | ha
    · rcases hl a ha with h | h
      · exact k.dj a (hp.mem_iff.mpr (List.mem_append_left _ h)) (.inl f)
      · exact fE a h f
    · exact k1.dj a ha (.inl (.inl f))
  · obtain ⟨xs, e⟩ := k.fa a (.inl f)
    exact ⟨xs, hB a _ e fun h => k.dj a (hp.mem_iff.mpr (List.mem_append_left _ h)) (.inl f)⟩
  · exact hB b o e fun h => n (List.mem_append_left _ (hp.mem_iff.mpr (List.mem_append_left _ h)))
  · refine .inl ?_
    rcases List.mem_append.mp hx with hx | hx
    · rcases hl x hx with h | h
      · exact List.mem_append_left _ (hp.mem_iff.mpr (List.mem_append_left _ h))
      · exact List.mem_append_right _ h
    · exact List.mem_append_left _ (hp.mem_iff.mpr (List.mem_append_right _ hx))
/-- a list that is mine, its items given up -/
theorem own_list {m : Own} {ds} (w : Ow K H (fun a => F a ∨ a ∈ A) m v (.list ds) B) (hm : m ≠ .fz) (hp : A.Perm (B ++ A1)) (nd : A.Nodup) (dj : ∀ a ∈ A, ¬ F a) : ∃ l xs, v = .ref l ∧ H l = some (.lst xs) ∧ l ∈ B ∧ RpAll K H (fun a => F a ∨ a ∈ l :: A1) xs ds := by
  have nd' := hp.nodup_iff.mp nd
  cases w with
  | fz h => exact absurd rfl hm
  | sc e _ => simp [scalar] at e
  | @topL l xs _ h r =>
    exact ⟨l, xs, rfl, h, List.mem_singleton.mpr rfl, RpAll.stay (stay_less fun a x => x.imp id fun y => hp.mem_iff.mpr (by simpa using y)) _ _ r⟩
  | @fullL l xs _ A' h r =>
    refine ⟨l, xs, rfl, h, List.mem_cons_self, OwAll.give _ _ _ r (fun a x => x.imp id fun y => hp.mem_iff.mpr ?_) fun a ha x => ?_⟩
    · rcases List.mem_cons.mp y with rfl | y
      · simp
      · exact List.mem_append_right _ y
    · have nd2 := List.nodup_append.mp nd'
      have nl := List.nodup_cons.mp nd2.1
      rcases x with x | x
      · exact dj a (hp.mem_iff.mpr (List.mem_append_left _ (List.mem_cons_of_mem _ ha))) x
      · rcases List.mem_cons.mp x with rfl | x
        · exact nl.1 ha
        · exact nd2.2.2 a (List.mem_cons_of_mem _ ha) a x rfl
/-- the mask of a list whose items were changed -/
def mkL (m : Own) (ds : List PyData) : Own := if m = .full ∧ noLists ds = true then .full else .top
/-- .. and it is put back -/
theorem mut_back {m : Own} {ds ds' : List PyData} {xs' : List V} {l : Addr} (k : Core K F ts σ H A) (e : ts[i]? = some (some (.list ds, m))) (hm : m ≠ .fz) (hv : σ[i]? = some (some (.ref l))) {xs : List V} (hl : H l = some (.lst xs)) (hp : A.Perm (B ++ A1)) (hlB : l ∈ B)
    (k1 : Core K (fun a => F a ∨ a ∈ B) (ts.set i none) σ H A1) (r : RpAll K H (fun a => F a ∨ a ∈ l :: A1) xs' ds') :
    ∃ A', Core K F (ts.set i (some (.list ds', mkL m ds'))) σ (upd H l (.lst xs')) A' ∧ (∀ a ∈ A', a ∈ l :: A1) ∧ Chg A H A' (upd H l (.lst xs')) := by
  have k' : Core K (fun a => F a ∨ a ∈ ([] : List Addr)) ts σ H A := by
    have e0 : (fun a => F a ∨ a ∈ ([] : List Addr)) = F := by funext a; simp
    rw [e0]; exact k
  have k1' : Core K (fun a => (F a ∨ a ∈ ([] : List Addr)) ∨ a ∈ B) (ts.set i none) σ H A1 := by
    have e0 : (fun a => (F a ∨ a ∈ ([] : List Addr)) ∨ a ∈ B) = fun a => F a ∨ a ∈ B := by funext a; simp
    rw [e0]; exact k1
  have r' : RpAll K (upd H l (.lst xs')) (fun a => F a ∨ a ∈ l :: A1) xs' ds' := RpAll.stay (fun b o e n => ⟨upd_at e fun h => n (.inr (h ▸ List.mem_cons_self)), n⟩) _ _ r
  have q : Ow K (upd H l (.lst xs')) (fun a => F a ∨ a ∈ [l] ++ A1) (mkL m ds') (.ref l) (.list ds') [l] := by
    unfold mkL
    split
    · rename_i h
      exact .fullL (A := []) upd_same (RpAll.full _ _ r' h.2)
    · exact .topL upd_same r'
  obtain ⟨A', h1, h2, h3⟩ := write_back (c' := (.list ds', mkL m ds')) k' List.nodup_nil (fun _ h => absurd h List.not_mem_nil) e hv hp k1' (H' := upd H l (.lst xs')) (B' := [l]) (fun b o e n => upd_at e fun h => n (h ▸ hlB)) (fun a ha => .inl (by rw [List.mem_singleton] at ha; exact ha ▸ hlB)) (by simp) q
  rw [List.append_nil] at h3
  exact ⟨A', h1, h2, h3⟩
end

theorem OwAll.set {K : PySem.W.Frag} {H : Hp} {M : Addr → Prop} {v : V} {d : PyData} (hd : Ow K H M .full v d []) : ∀ {vs : List V} {ds : List PyData} {A : List Addr} (j : Nat), OwAll K H M vs ds A → ∃ A', OwAll K H M (vs.set j v) (ds.set j d) A' ∧ List.Sublist A' A
  | _, _, _, _, .nil => ⟨[], .nil, .slnil⟩
  | _, _, _, 0, .cons (B := B) _ r => ⟨[] ++ B, .cons hd r, List.sublist_append_right _ _⟩
  | _, _, _, j + 1, .cons (A := A) h r => by
    obtain ⟨A', r', s⟩ := OwAll.set hd j r
    exact ⟨A ++ A', .cons h r', List.Sublist.append (List.Sublist.refl A) s⟩
/-- an item without lists is put into a list that is mine: what else it owns stays mine -/
theorem set_back {K : PySem.W.Frag} {F : Addr → Prop} {ts : TSt} {σ : St} {H : Hp} {A : List Addr} {i j : Nat} {m : Own} {ds : List PyData} {x : V} {v : V} {d : PyData} (k : Core K F ts σ H A) (e : ts[i]? = some (some (.list ds, m))) (hm : m ≠ .fz) (hv : σ[i]? = some (some x)) (r : Rp K H (fun a => F a ∨ a ∈ A) v d) (nl : noList d = true) :
    ∃ l xs, x = .ref l ∧ H l = some (.lst xs) ∧ xs.length = ds.length ∧ ∃ A', Core K F (ts.set i (some (.list (ds.set j d), m))) σ (upd H l (.lst (xs.set j v))) A' ∧ (∀ a ∈ A', a ∈ A) ∧ Chg A H A' (upd H l (.lst (xs.set j v))) := by
  obtain ⟨v', B, A2, h1, h2, hp, k2, nb, fb⟩ := k.take e
  rw [hv] at h1
  cases h1
  have k0 : Core K (fun a => F a ∨ a ∈ ([] : List Addr)) ts σ H A := by
    have e0 : (fun a => F a ∨ a ∈ ([] : List Addr)) = F := by funext a; simp
    rw [e0]; exact k
  have k20 : Core K (fun a => (F a ∨ a ∈ ([] : List Addr)) ∨ a ∈ B) (ts.set i none) σ H A2 := by
    have e0 : (fun a => (F a ∨ a ∈ ([] : List Addr)) ∨ a ∈ B) = fun a => F a ∨ a ∈ B := by funext a; simp
    rw [e0]; exact k2
  have subA : ∀ a ∈ A2, a ∈ A := fun a ha => hp.mem_iff.mpr (List.mem_append_right _ ha)
  cases m with
  | fz => exact absurd rfl hm
  | top =>
    obtain ⟨l, xs, rfl, hl, hlB, rr⟩ := own_list h2 hm hp k.nd k.dj
    have less : ∀ a, (F a ∨ a ∈ l :: A2) → F a ∨ a ∈ A := fun a x => x.imp id fun h => by
      rcases List.mem_cons.mp h with rfl | h
      · exact hp.mem_iff.mpr (List.mem_append_left _ hlB)
      · exact subA a h
    have rr' : RpAll K H (fun a => F a ∨ a ∈ l :: A2) (xs.set j v) (ds.set j d) := rr.set j (Rp.stay (stay_less less) _ _ r)
    have w' : Ow K (upd H l (.lst (xs.set j v))) (fun a => F a ∨ a ∈ [l] ++ A2) .top (.ref l) (.list (ds.set j d)) [l] :=
      .topL upd_same (RpAll.stay (fun b o e n => ⟨upd_at e fun h => n (.inr (h ▸ List.mem_cons_self)), n⟩) _ _ rr')
    obtain ⟨A', k3, sub, g3⟩ := write_back (c' := (.list (ds.set j d), .top)) k0 List.nodup_nil (fun _ h => absurd h List.not_mem_nil) e hv hp k20 (H' := upd H l (.lst (xs.set j v))) (B' := [l]) (fun b o e n => upd_at e fun h => n (h ▸ hlB))
      (fun a ha => .inl (by rw [List.mem_singleton] at ha; exact ha ▸ hlB)) (by simp) w'
    rw [List.append_nil] at g3
    refine ⟨l, xs, rfl, hl, rr.len, A', k3, fun a ha => ?_, g3⟩
    have := sub a ha
    rcases List.mem_append.mp this with h | h
    · rw [List.mem_singleton] at h
      exact hp.mem_iff.mpr (List.mem_append_left _ (h ▸ hlB))
    · exact subA a h
  | full =>
    cases h2 with
    | sc e _ => simp [scalar] at e
    | @fullL l xs _ Bk hl rk =>
      have nlk := List.nodup_cons.mp nb
      obtain ⟨Bk', rk', sl⟩ := OwAll.set (Rp.full _ _ r nl) j rk
      have lA : l ∈ A := hp.mem_iff.mpr (List.mem_append_left _ List.mem_cons_self)
      have st : Stay H (fun a => F a ∨ a ∈ A) (upd H l (.lst (xs.set j v))) (fun a => F a ∨ a ∈ (l :: Bk') ++ A2) := fun b o e n => by
        refine ⟨upd_at e fun h => n (.inr (h ▸ lA)), fun x => n (x.imp id fun h => ?_)⟩
        rcases List.mem_append.mp h with h | h
        · rcases List.mem_cons.mp h with rfl | h
          · exact lA
          · exact hp.mem_iff.mpr (List.mem_append_left _ (List.mem_cons_of_mem _ (sl.subset h)))
        · exact subA b h
      have w' : Ow K (upd H l (.lst (xs.set j v))) (fun a => F a ∨ a ∈ (l :: Bk') ++ A2) .full (.ref l) (.list (ds.set j d)) (l :: Bk') :=
        .fullL upd_same (OwAll.stay st _ _ _ rk' fun a ha => upd_ne fun h => nlk.1 (h ▸ sl.subset ha))
      obtain ⟨A', k3, sub, g3⟩ := write_back (c' := (.list (ds.set j d), .full)) k0 List.nodup_nil (fun _ h => absurd h List.not_mem_nil) e hv hp k20 (H' := upd H l (.lst (xs.set j v))) (B' := l :: Bk') (fun b o e n => upd_at e fun h => n (h ▸ List.mem_cons_self))
        (fun a ha => .inl (by
          rcases List.mem_cons.mp ha with rfl | ha
          · exact List.mem_cons_self
          · exact List.mem_cons_of_mem _ (sl.subset ha)))
        (List.nodup_cons.mpr ⟨fun h => nlk.1 (sl.subset h), sl.nodup nlk.2⟩) w'
      rw [List.append_nil] at g3
      refine ⟨l, xs, rfl, hl, OwAll.len rk, A', k3, fun a ha => ?_, g3⟩
      have := sub a ha
      rcases List.mem_append.mp this with h | h
      · rcases List.mem_cons.mp h with rfl | h
        · exact lA
        · exact hp.mem_iff.mpr (List.mem_append_left _ (List.mem_cons_of_mem _ (sl.subset h)))
      · exact subA a h

/-! ### methods of a list that is mine -/
abbrev FM := List PyData → List Opn → (PyData → List PyData → Prop) → Prop
structure SdM (K : PySem.W.Frag) (f : FM) (r : V → List V → Hp → VK → Prop) : Prop where
  mo : ∀ ds os Q Q', (∀ c t, Q c t → Q' c t) → f ds os Q → f ds os Q'
  run : ∀ H M l xs vs ds os Q, H l = some (.lst xs) → RpAll K H M xs ds → OpnsR K H M os vs → f ds os (fun d ds' => ∀ v xs', RpAll K H M xs' ds' → Rp K H M v d → Q v (upd H l (.lst xs'))) → r (.ref l) vs H Q
def isL (ts : TSt) (i : Nat) : Prop := ∃ ds m, ts[i]? = some (some (.list ds, m))
def eMut (f : FM) (i : Nat) (Wa : WA) : WE := fun ts Q => isL ts i ∧ Wa ts fun cs ts1 => resPs ts1 cs fun os => ∃ ds m, ts1[i]? = some (some (.list ds, m)) ∧ m ≠ .fz ∧ f ds os fun d ds' => Q (d, .fz) (ts1.set i (some (.list ds', mkL m ds')))
theorem OpnsR.less {K H} {M M' : Addr → Prop} (l : ∀ a, M' a → M a) : ∀ {os vs}, OpnsR K H M os vs → OpnsR K H M' os vs
  | [], [], _ => trivial
  | o :: os, v :: vs, h => by
    refine ⟨⟨h.1.1, fun e => ?_⟩, OpnsR.less l h.2⟩
    have r := h.1.2 e
    obtain ⟨d, b⟩ := o
    cases d with
    | list ds => obtain ⟨a, xs, e1, e2, e3⟩ := r; exact ⟨a, xs, e1, e2, RpAll.stay (stay_less l) _ _ e3⟩
    | tuple ds => obtain ⟨a, xs, e1, e2, e3⟩ := r; exact ⟨a, xs, e1, e2, RpAll.stay (stay_less l) _ _ e3⟩
    | none => exact Rp.stay (stay_less l) _ _ r
    | bool _ => exact Rp.stay (stay_less l) _ _ r
    | int _ => exact Rp.stay (stay_less l) _ _ r
    | str _ => exact Rp.stay (stay_less l) _ _ r
    | dict _ => exact Rp.stay (stay_less l) _ _ r
  | [], _ :: _, h => h.elim
  | _ :: _, [], h => h.elim
theorem isL_ty {K F ts σ H A} {i : Nat} (k : Core K F ts σ H A) (h : isL ts i) : ∃ v, σ[i]? = some (some v) ∧ tyV K "list" v H := by
  obtain ⟨ds, m, e⟩ := h
  obtain ⟨v, B, h1, h2, _⟩ := k.peek e
  have d := h2.dp
  cases d with
  | lst sq _ => exact ⟨_, h1, .inl ⟨rfl, _, sq⟩⟩
section
variable {X : Cx} {e o : Expr} {es : List Expr} {pos apos cpos : Pos} {f : FM} {i : Nat} {Wa : WA} {name : Str} {id : String} {r : V → List V → Hp → VK → Prop}
theorem rd_mut {K F σ H Q} (s : SdM K f r) (ma : Mo Wa) (h : rdE K F (eMut f i Wa) σ H Q) : ∃ x, σ[i]? = some (some x) ∧ tyV K "list" x H ∧ rdA K F Wa σ H fun xs H2 => r x xs H2 Q := by
  obtain ⟨ts, A, k, hl, q⟩ := h
  obtain ⟨x, hx, ty⟩ := isL_ty k hl
  refine ⟨x, hx, ty, ts, A, k, ma _ _ _ (fun cs ts1 q vs H1 A1 k1 g1 r1 => ?_) q⟩
  obtain ⟨os, ho, ds, m, e, hm, q⟩ := caps_res k1 r1 q
  obtain ⟨v, B, A2, h1, h2, hp, k2, nb, fb⟩ := k1.take e
  rw [hx] at h1
  cases h1
  obtain ⟨l, xs, rfl, hl', hlB, rr⟩ := own_list h2 hm hp k1.nd k1.dj
  have lss : ∀ a, (F a ∨ a ∈ l :: A2) → F a ∨ a ∈ A1 := fun a x => x.imp id fun y => by
    rcases List.mem_cons.mp y with rfl | y
    · exact hp.mem_iff.mpr (List.mem_append_left _ hlB)
    · exact hp.mem_iff.mpr (List.mem_append_right _ y)
  refine s.run _ _ _ _ _ _ _ _ hl' rr (ho.less lss) (s.mo _ _ _ _ (fun d ds' q v xs' r2 r3 => ?_) q)
  · obtain ⟨A', k3, sub, g3⟩ := mut_back k1 e hm hx hl' hp hlB k2 r2
    refine pure_contE k3 (g1.trans g3) q v _ [] (.of_rp (Rp.stay (fun b o e n => ⟨?_, fun x => n (x.imp id (sub b))⟩) _ _ r3))
    exact upd_at e fun h => n (.inr (h ▸ List.mem_cons_self))
theorem mut_mo (s : SdM X.K f r) (ma : Mo Wa) : Mo (eMut f i Wa) := fun _ _ _ k ⟨hl, q⟩ => ⟨hl, ma _ _ _ (fun _ _ => resPs_mo fun _ ⟨ds, m, e, hm, q⟩ => ⟨ds, m, e, hm, s.mo _ _ _ _ (fun _ _ => k _ _) q⟩) q⟩
/-- x.m(e, ..) for a name x -/
theorem se_mut (slot : Slot "list" name id) (hty : typeOf (.builtin id) = pure (.type "method_descriptor")) (hm : MtR X id r) (s : SdM X.K f r) (ho : PE X o (tVar i)) (ha : SA X (e :: es) Wa) (hbase : attributeBase o name X.env (eval o X.env) = eval o X.env := by rfl)
    (hfew : ((backTo cpos (starEach (e :: es) X.env)).all (fun x => !x.1) && (backToKw cpos (keywordEach [] X.env)).all (fun x => x.1.isSome) && decide ((e :: es).length + ([] : List Keyword).length + (if ([] : List Keyword).isEmpty then 0 else 1) < 30)) = true := by rfl)
    (hline : (apos.endLine == cpos.line) = true := by rfl) (hs : starEach (e :: es) X.env = (false, eval e X.env) :: starEach es X.env := by rfl) (hplain : (backTo cpos (starEach es X.env)).any (·.1) = false := by rfl) : SE X (.Call (.Attribute o name apos) (e :: es) [] cpos) (eMut f i Wa) :=
  ⟨mut_mo s ha.mo, fun F => pe_weak (pe_bm PySem.F.plainAttrs_list slot hty hm ho (ha.run F) hbase hfew hline hs hplain) fun σ H Q h => by
    obtain ⟨x, hx, ty, q⟩ := rd_mut s ha.mo h
    exact ⟨x, hx, ty, q⟩⟩
theorem se_mut0 (slot : Slot "list" name id) (hty : typeOf (.builtin id) = pure (.type "method_descriptor")) (hm : MtR X id r) (s : SdM X.K f r) (ho : PE X o (tVar i)) (hbase : attributeBase o name X.env (eval o X.env) = eval o X.env := by rfl) (hline : (apos.endLine == cpos.line) = true := by rfl) :
    SE X (.Call (.Attribute o name apos) [] [] cpos) (eMut f i aNil) :=
  ⟨mut_mo s (sa_nil (X := X)).mo, fun F => pe_weak (pe_bm0 PySem.F.plainAttrs_list slot hty hm ho hbase hline) fun σ H Q h => by
    obtain ⟨x, hx, ty, ts, A, k, q⟩ := rd_mut s (sa_nil (X := X)).mo h
    exact ⟨x, hx, ty, q [] H A k Chg.refl trivial⟩⟩
/-! ### x.append(e), where what e owns may go along -/
def mkA (m : Own) (c : TVal) : Own := if m = .full ∧ clean c = true then .full else .top
def eApp (i : Nat) (We : WE) : WE := fun ts Q => isL ts i ∧ We ts fun c ts1 => ∃ ds m, ts1[i]? = some (some (.list ds, m)) ∧ m ≠ .fz ∧ ds.length < sizeLine ∧ Q (.none, .full) (ts1.set i (some (.list (ds ++ [c.1]), mkA m c)))
theorem se_app {We : WE} (ho : PE X o (tVar i)) (ha : SE X e We) (hbase : attributeBase o "append" X.env (eval o X.env) = eval o X.env := by rfl)
    (hfew : ((backTo cpos (starEach [e] X.env)).all (fun x => !x.1) && (backToKw cpos (keywordEach [] X.env)).all (fun x => x.1.isSome) && decide ([e].length + ([] : List Keyword).length + (if ([] : List Keyword).isEmpty then 0 else 1) < 30)) = true := by rfl)
    (hline : (apos.endLine == cpos.line) = true := by rfl) (hs : starEach [e] X.env = (false, eval e X.env) :: starEach [] X.env := by rfl) (hplain : (backTo cpos (starEach [] X.env)).any (·.1) = false := by rfl) : SE X (.Call (.Attribute o "append" apos) [e] [] cpos) (eApp i We) := by
  refine ⟨fun _ _ _ k ⟨hl, q⟩ => ⟨hl, ha.mo _ _ _ (fun _ _ ⟨ds, m, e, hm, l, q⟩ => ⟨ds, m, e, hm, l, k _ _ q⟩) q⟩, fun F => pe_weak (pe_bm PySem.F.plainAttrs_list PySem.F.slot_list_append PySem.F.type_list_append mt_append ho (pa_cons (ha.run F) pa_nil hs) hbase hfew hline hs hplain) ?_⟩
  rintro σ H Q ⟨ts, A, k, hl, q⟩
  obtain ⟨x, hx, ty⟩ := isL_ty k hl
  refine ⟨x, hx, ty, ts, A, k, ha.mo _ _ _ (fun c ts1 ⟨ds, m, e, hm, l, q⟩ y H1 A1 E k1 nE fE g1 w => ?_) q⟩
  obtain ⟨v, B, A2, h1, h2, hp, k2, nb, fb⟩ := k1.take e
  rw [hx] at h1
  cases h1
  obtain ⟨l', xs, rfl, hl', hlB, rr⟩ := own_list h2 hm hp k1.nd k1.dj
  refine ⟨l', xs, y, rfl, rfl, hl', by rw [rr.len]; exact l, ?_⟩
  have nA2 : ∀ a ∈ A2, a ∈ A1 := fun a ha => hp.mem_iff.mpr (List.mem_append_right _ ha)
  have lA1 : l' ∈ A1 := hp.mem_iff.mpr (List.mem_append_left _ hlB)
  have lA2 : l' ∉ A2 := fun h => (List.nodup_append.mp (hp.nodup_iff.mp k1.nd)).2.2 l' hlB l' h rfl
  have lE : l' ∉ E := fun h => k1.dj l' lA1 (.inr h)
  by_cases hc : m = .full ∧ clean c = true
  · -- all of it is mine
    obtain ⟨rfl, hc⟩ := hc
    have em : mkA .full c = .full := if_pos ⟨rfl, hc⟩
    rw [em] at q
    cases h2 with
    | sc e _ => simp [scalar] at e
    | @fullL _ xs' _ Bk h r =>
      rw [hl'] at h
      cases h
      have nlk := List.nodup_cons.mp nb
      have wy : OwAll X.K H1 (fun a => (F a ∨ a ∈ E) ∨ a ∈ A1) [y] [c.1] E := by
        obtain ⟨B', r', rfl⟩ := (OwL.cons w .nil).fulls (cs := [c]) (by simp [cleans, hc])
        rwa [List.append_nil] at r'
      have rall := OwAll.append r wy
      have disj : ∀ a ∈ E, a ∉ Bk := fun a ha hb => k1.dj a (hp.mem_iff.mpr (List.mem_append_left _ (List.mem_cons_of_mem _ hb))) (.inr ha)
      have st : Stay H1 (fun a => (F a ∨ a ∈ E) ∨ a ∈ A1) (upd H1 l' (.lst (xs ++ [y]))) (fun a => F a ∨ a ∈ (l' :: (Bk ++ E)) ++ A2) := fun b o e n => by
        refine ⟨upd_at e fun h => n (.inr (h ▸ lA1)), fun x => n ?_⟩
        rcases x with x | x
        · exact .inl (.inl x)
        · rcases List.mem_append.mp x with x | x
          · rcases List.mem_cons.mp x with rfl | x
            · exact .inr lA1
            · rcases List.mem_append.mp x with x | x
              · exact .inr (hp.mem_iff.mpr (List.mem_append_left _ (List.mem_cons_of_mem _ x)))
              · exact .inl (.inr x)
          · exact .inr (nA2 b x)
      have w' : Ow X.K (upd H1 l' (.lst (xs ++ [y]))) (fun a => F a ∨ a ∈ (l' :: (Bk ++ E)) ++ A2) .full (.ref l') (.list (ds ++ [c.1])) (l' :: (Bk ++ E)) := by
        refine .fullL upd_same (OwAll.stay st _ _ _ rall fun a ha => upd_ne fun h => ?_)
        rcases List.mem_append.mp ha with ha | ha
        · exact nlk.1 (h ▸ ha)
        · exact lE (h ▸ ha)
      obtain ⟨A', k3, sub, g3⟩ := write_back (c' := (.list (ds ++ [c.1]), .full)) k1 nE fE e hx hp k2 (H' := upd H1 l' (.lst (xs ++ [y]))) (B' := l' :: (Bk ++ E)) (fun b o e n => upd_at e fun h => n (h ▸ List.mem_cons_self))
        (fun a ha => by
          rcases List.mem_cons.mp ha with rfl | ha
          · exact .inl List.mem_cons_self
          · exact (List.mem_append.mp ha).imp (List.mem_cons_of_mem _) id)
        (List.nodup_cons.mpr ⟨fun h => (List.mem_append.mp h).elim nlk.1 lE, List.nodup_append.mpr ⟨nlk.2, nE, fun a ha b hb e => disj b hb (e ▸ ha)⟩⟩) w'
      exact pure_contE k3 (g1.trans g3) q _ _ [] (.of_sc rfl .non)
  · have em : mkA m c = .top := if_neg hc
    rw [em] at q
    -- what e owns is given up
    have k1' := k1.unpend
    have ry := give_up k1 fE w
    have k2' : Core X.K (fun a => F a ∨ a ∈ B) (ts1.set i none) σ H1 A2 := core_less k2 fun a x => x.imp .inl id
    have hm2 : m ≠ .fz := hm
    have less : ∀ a, (F a ∨ a ∈ l' :: A2) → F a ∨ a ∈ A1 := fun a x => x.imp id fun h => by
      rcases List.mem_cons.mp h with rfl | h
      · exact lA1
      · exact nA2 a h
    have rr' : RpAll X.K H1 (fun a => F a ∨ a ∈ l' :: A2) (xs ++ [y]) (ds ++ [c.1]) := by
      refine RpAll.append (RpAll.stay (stay_less fun a x => x.imp .inl id) _ _ rr) (.cons (Rp.stay (stay_less less) _ _ ry) .nil)
    have k0 : Core X.K (fun a => F a ∨ a ∈ ([] : List Addr)) ts1 σ H1 A1 := core_less k1 fun a x => x.elim .inl fun h => absurd h List.not_mem_nil
    have k20 : Core X.K (fun a => (F a ∨ a ∈ ([] : List Addr)) ∨ a ∈ B) (ts1.set i none) σ H1 A2 := core_less k2 fun a x => x.imp (fun f => .inl (f.resolve_right List.not_mem_nil)) id
    have w' : Ow X.K (upd H1 l' (.lst (xs ++ [y]))) (fun a => F a ∨ a ∈ [l'] ++ A2) .top (.ref l') (.list (ds ++ [c.1])) [l'] := by
      refine .topL upd_same (RpAll.stay (fun b o e n => ⟨upd_at e fun h => n (.inr (h ▸ List.mem_cons_self)), n⟩) _ _ rr')
    obtain ⟨A', k3, sub, g3⟩ := write_back (c' := (.list (ds ++ [c.1]), .top)) k0 List.nodup_nil (fun _ h => absurd h List.not_mem_nil) e hx hp k20 (H' := upd H1 l' (.lst (xs ++ [y]))) (B' := [l']) (fun b o e n => upd_at e fun h => n (h ▸ hlB))
      (fun a ha => .inl (by rw [List.mem_singleton] at ha; exact ha ▸ hlB)) (by simp) w'
    rw [List.append_nil] at g3
    exact pure_contE k3 ((g1.less fun x hx => List.mem_append_left _ hx).trans g3) q _ _ [] (.of_sc rfl .non)
end

theorem noLists_mem : ∀ {ds : List PyData} {d : PyData}, noLists ds = true → d ∈ ds → noList d = true
  | _ :: _, _, h, hm => by
    simp only [noLists, Bool.and_eq_true] at h
    rcases List.mem_cons.mp hm with rfl | hm
    · exact h.1
    · exact noLists_mem h.2 hm
/-! ### x[k] = e -/
def gSet (i : Nat) (wk : WO) : WG := fun c ts Q => isL ts i ∧ wk ts fun ck ts1 => resP ts1 ck fun o => ∃ k ds m j, o.1 = .int k ∧ ts1[i]? = some (some (.list ds, m)) ∧ m ≠ .fz ∧ ixN ds.length k = some j ∧ Q (ts1.set i (some (.list (ds.set j c.1), if noList c.1 = true then m else .top)))
section
variable {X : Cx} {J : List Nat} {o ix : Expr} {pos : Pos} {i : Nat} {wk : WO}
theorem sg_set (ho : PE X o (tVar i)) (hi : SO X ix wk) (ha : ∀ v, assign (.Subscript o ix pos) X.env v = (do let ov ← holding [v] (eval o X.env); let iv ← holding [v, ov] (eval ix X.env); standAt pos; holding [v, ov, iv] (setItem ov iv v); release [v, ov, iv] []) := by intro _; rfl) : SG X J (.Subscript o ix pos) (gSet i wk) := by
  refine ⟨fun c ts Q Q' k ⟨hl, h⟩ => ⟨hl, hi.mo _ _ _ (fun _ _ => resP_mo fun _ ⟨k', ds, m, j, e1, e2, e3, e4, q⟩ => ⟨k', ds, m, j, e1, e2, e3, e4, k _ q⟩) h⟩, fun F io hj => pg_weak (pg_sub ho (hi.run F) set_list ha) ?_⟩
  rintro v σ H Q ⟨ts, A, E, c, k, nE, fE, w, p, hl, q⟩
  obtain ⟨x, hx, _⟩ := isL_ty k hl
  have k0 := k.unpend
  have rv := give_up k fE w
  refine ⟨x, hx, ts, A, k0, hi.mo _ _ _ (fun ck ts1 q y H1 A1 k1 g1 r1 => ?_) q⟩
  obtain ⟨oo, h1, k', ds, m, j, e1, e2, hm, e4, q⟩ := cap_res k1 r1 q
  have rv1 := g1.rp k0 rv
  have gg : Chg (A ++ E) H A H := ⟨fun _ _ e _ => e, fun x hx => .inl (List.mem_append_left _ hx)⟩
  by_cases nl : noList c.1 = true
  · rw [if_pos nl] at q
    obtain ⟨l, xs, rfl, hl', len, A', k3, sub, g3⟩ := set_back (j := j) k1 e2 hm hx rv1 nl
    refine ⟨l, xs, k', j, rfl, opn_int h1 e1, hl', by rw [len]; exact e4, ?_⟩
    exact q _ _ _ k3 (gg.trans (g1.trans g3)) p
  · rw [if_neg nl] at q
    obtain ⟨x', B, A2, hx', h2, hp, k2, nb, fb⟩ := k1.take e2
    rw [hx] at hx'
    cases hx'
    obtain ⟨l, xs, rfl, hl', hlB, rr⟩ := own_list h2 hm hp k1.nd k1.dj
    have rv2 : Rp X.K H1 (fun a => F a ∨ a ∈ l :: A2) v c.1 := Rp.stay (stay_less fun a x => x.imp id fun h => by
      rcases List.mem_cons.mp h with rfl | h
      · exact hp.mem_iff.mpr (List.mem_append_left _ hlB)
      · exact hp.mem_iff.mpr (List.mem_append_right _ h)) _ _ rv1
    refine ⟨l, xs, k', j, rfl, opn_int h1 e1, hl', by rw [rr.len]; exact e4, ?_⟩
    have em : mkL .top (ds.set j c.1) = .top := by unfold mkL; rw [if_neg (fun h => nomatch h.1)]
    obtain ⟨A', k3, sub, g3⟩ := mut_back (m := m) k1 e2 hm hx hl' hp hlB k2 (rr.set j rv2)
    have q' : contS X.K F io H (A ++ E) Q (ts1.set i (some (.list (ds.set j c.1), .top))) := q
    have mt : mkL m (ds.set j c.1) = .top := by
      unfold mkL
      refine if_neg fun h => nl ?_
      have hin : c.1 ∈ ds.set j c.1 := by
        have hj : j < ds.length := (ixN_seq e4).2.1
        exact List.mem_iff_getElem?.mpr ⟨j, by rw [List.getElem?_set_self hj]⟩
      exact noLists_mem h.2 hin
    rw [mt] at k3
    exact q' _ _ _ k3 (gg.trans (g1.trans g3)) p
end

/-! ### a def's promise -/
/-- the arguments; the result and the arguments that are changed in place, behind the call -/
abbrev FSpec := List TVal → (TVal → List TVal → Prop) → Prop
def MoF (S : FSpec) : Prop := ∀ cs Q Q', (∀ c t, Q c t → Q' c t) → S cs Q → S cs Q'
structure RetO (K : PySem.W.Frag) (F : Addr → Prop) (H : Hp) (A : List Addr) (iov : List V) (r : TVal) (fins : List TVal) (v : V) (H' : Hp) (A' B : List Addr) : Prop where
  nd : (A' ++ B).Nodup
  dj : ∀ a ∈ A' ++ B, ¬ F a
  ow : Ow K H' (fun a => F a ∨ a ∈ A' ++ B) r.2 v r.1 B
  fin : OwL K H' (fun a => F a ∨ a ∈ A' ++ B) iov fins A'
  chg : Chg A H (A' ++ B) H'
def pick (J : List Nat) (l : List V) : List V := J.map fun j => l.getD j .non
def spT (K : PySem.W.Frag) (n : Nat) (J : List Nat) (S : FSpec) : Sp := fun vs H Q E => vs.length = n ∧ ∃ F A cs, Core K F (cs.map some) (vs.map some) H A ∧ S cs fun r fins => ∀ v H' A' B, RetO K F H A (pick J vs) r fins v H' A' B → Q v H'
/-- the parameters that are changed in place, at the end -/
def finT : List Nat → TSt → (List TVal → Prop) → Prop
  | [], _, k => k []
  | j :: J, ts, k => match ts[j]? with
    | some (some c) => finT J (ts.set j none) fun r => k (c :: r)
    | _ => False
def fnE (J : List Nat) (Q : TVal → List TVal → Prop) : TEnds := ⟨fun ts => finT J ts (Q (.none, .full)), fun r ts => finT J ts (Q r), fun _ => False, fun _ => False⟩
theorem fin_core {K F H} : ∀ {J : List Nat} {ts σ A} {k : List TVal → Prop} {vs : List V}, Core K F ts σ H A → finT J ts k → vs.length = J.length → (∀ (j x : Nat), J[j]? = some x → σ[x]? = (vs[j]?).map some) → ∃ fins A', k fins ∧ OwL K H (fun a => F a ∨ a ∈ A') vs fins A' ∧ A'.Nodup ∧ ∀ a ∈ A', a ∈ A
  | [], ts, σ, A, k, vs, c, h, hl, _ => by
    cases vs with
    | nil => exact ⟨[], [], h, .nil, List.nodup_nil, fun _ h => absurd h List.not_mem_nil⟩
    | cons _ _ => simp at hl
  | j :: J, ts, σ, A, k, vs, c, h, hl, hv => by
    cases vs with
    | nil => simp at hl
    | cons v vs =>
      unfold finT at h
      split at h
      · rename_i cc e
        obtain ⟨v', B, A1, h1, h2, hp, k1, nb, fb⟩ := c.take e
        have e0 := hv 0 j rfl
        rw [h1] at e0
        cases e0
        obtain ⟨fins, A', q, w, nd, sub⟩ := fin_core k1 h (by simpa using hl) fun i x e => hv (i + 1) x (by simpa using e)
        have disj : ∀ a ∈ B, a ∉ A' := fun a ha hb => k1.dj a (sub a hb) (.inr ha)
        refine ⟨cc :: fins, B ++ A', q, .cons (Ow.stay (stay_less fun a x => ?_) _ _ _ _ h2 fun _ _ => rfl) (w.stay (stay_less fun a x => ?_) fun _ _ => rfl), List.nodup_append.mpr ⟨nb, nd, fun a ha b hb e => disj a ha (e ▸ hb)⟩, fun a ha => ?_⟩
        · refine x.imp id fun y => hp.mem_iff.mpr ?_
          exact (List.mem_append.mp y).elim (List.mem_append_left _) fun y => List.mem_append_right _ (sub a y)
        · rcases x with x | x
          · exact .inl (.inl x)
          · exact (List.mem_append.mp x).elim (fun y => .inl (.inr y)) .inr
        · exact hp.mem_iff.mpr ((List.mem_append.mp ha).elim (List.mem_append_left _) fun y => List.mem_append_right _ (sub a y))
      · exact h.elim
end TV
end
set_option Elab.async false
set_option linter.all false
set_option maxRecDepth 100000
/-! Part 7: a def's body keeps its promise; calls. -/
section
namespace TV
open PySem PySem.Spec L2
open PyProof.Rows (envOfC)

section
variable {K : PySem.W.Frag} {F : Addr → Prop} {ts : TSt} {σ : St} {H H' : Hp} {A A' B : List Addr} {M M' : Addr → Prop}
theorem OwS.pad : ∀ {σ ts A} (k : Nat), OwS K H M σ ts A → OwS K H M (σ ++ List.replicate k none) (ts ++ List.replicate k none) A
  | _, _, _, 0, .nil => .nil
  | _, _, _, k + 1, .nil => .sn (OwS.pad (σ := []) (ts := []) k .nil)
  | _, _, _, k, .sn h => .sn (OwS.pad k h)
  | _, _, _, k, .sv h r => .sv h (OwS.pad k r)
theorem OwL.toS : ∀ {vs cs B}, OwL K H M vs cs B → OwS K H M (vs.map some) (cs.map some) B
  | _, _, _, .nil => .nil
  | _, _, _, .cons h r => .sv h (OwL.toS r)
mutual
/-- what has no shared list does not care who else owns lists -/
theorem Ow.any (l : ∀ b, M' b → M b ∨ ∃ xs, H b = some (.lst xs)) : ∀ (d : PyData) (v : V) (A : List Addr), Ow K H M .full v d A → Ow K H M' .full v d A
  | _, _, _, .sc e h => .sc e (Rp.any l _ _ h (by revert e; cases ‹PyData› <;> simp [scalar, noList]))
  | _, _, _, .fullL h r => .fullL h (OwAll.any l _ _ _ r)
  | _, _, _, .fullT h r => .fullT (TupR.any l h) (OwAll.any l _ _ _ r)
theorem OwAll.any (l : ∀ b, M' b → M b ∨ ∃ xs, H b = some (.lst xs)) : ∀ (ds : List PyData) (vs : List V) (A : List Addr), OwAll K H M vs ds A → OwAll K H M' vs ds A
  | _, _, _, .nil => .nil
  | _, _, _, .cons h r => .cons (Ow.any l _ _ _ h) (OwAll.any l _ _ _ r)
theorem TupR.any (l : ∀ b, M' b → M b ∨ ∃ xs, H b = some (.lst xs)) {a xs} (h : TupR K H M a xs) : TupR K H M' a xs := h.imp (fun h => ⟨h.1, fun x => (l a x).elim h.2 fun ⟨ys, e⟩ => by
    rcases h.1 with h1 | ⟨o, h1⟩ <;> rw [e] at h1 <;> cases h1⟩) id
theorem Rp.any (l : ∀ b, M' b → M b ∨ ∃ xs, H b = some (.lst xs)) : ∀ (d : PyData) (v : V), Rp K H M v d → noList d = true → Rp K H M' v d
  | _, _, .non, _ => .non
  | _, _, .bl b, _ => .bl b
  | _, _, .int i, _ => .int i
  | _, _, .str x, _ => .str x
  | _, _, .lst h r, e => by simp [noList] at e
  | _, _, .tup h r, e => .tup (TupR.any l h) (RpAll.any l _ _ r (by simpa [noList] using e))
theorem RpAll.any (l : ∀ b, M' b → M b ∨ ∃ xs, H b = some (.lst xs)) : ∀ (ds : List PyData) (vs : List V), RpAll K H M vs ds → noLists ds = true → RpAll K H M' vs ds
  | _, _, .nil, _ => .nil
  | _, _, .cons h r, e => by
    simp only [noLists, Bool.and_eq_true] at e
    exact .cons (Rp.any l _ _ h e.1) (RpAll.any l _ _ r e.2)
end
theorem Ow.anyC {c : TVal} {v} (l : ∀ b, M' b → M b ∨ ∃ xs, H b = some (.lst xs)) (h : Ow K H M c.2 v c.1 B) (e : clean c = true) : Ow K H M' c.2 v c.1 B := by
  obtain ⟨d, m⟩ := c
  by_cases hm : m = .full
  · subst hm
    exact Ow.any l _ _ _ h
  · have e2 : noList d = true := by
      unfold clean at e
      dsimp only at e
      rwa [decide_eq_false hm, Bool.false_or] at e
    obtain ⟨r, rfl⟩ := Ow.flat _ _ _ _ h e2
    have r' := Rp.any l _ _ r e2
    cases m with
    | fz => exact .fz r'
    | full => exact absurd rfl hm
    | top =>
      cases d with
      | list _ => simp [noList] at e2
      | tuple _ => exact .topT r'
      | none => exact .sc rfl r'
      | bool _ => exact .sc rfl r'
      | int _ => exact .sc rfl r'
      | str _ => exact .sc rfl r'
      | dict _ => simp [noList] at e2
end

section
variable {P : Program} {w : World} {K : PySem.W.Frag} {mg : Str → Option Value} {base : Heap}
/-- the context of a def's body where no exception leaves -/
abbrev cx0 (P : Program) (w : World) (K : PySem.W.Frag) (mg : Str → Option Value) (base : Heap) (N : List Str) (qual : Str) (scope : Scope) (f : Addr) (cd : Value) (A : Around) (outer : List Env) (s : Shared) (H : Hp) (E : XK) : Cx := (cxOf CX0 P w K mg base N qual scope f cd A outer s H E).nox
/-- THE RULE for a def -/
theorem fn_ok {x qual : Str} {st : Stmt} {f : Addr} {fd : FuncData} {N ps : List Str} {k : Nat} {J : List Nat} {S : FSpec} {W : WS} (F : Fun K x qual st f fd) (Sc : FnScope N ps (defScope st)) (hJ : ∀ j ∈ J, j < ps.length)
    (hb : ∀ (cdv : Value) (A : Around) (outer : List Env) (s : Shared) (H : Hp) (E : XK), Room k (A.deeper (envOfC qual (defScope st) s.heap.objs.size f cdv)) → SSs (cx0 P w K mg base N qual (defScope st) f cdv A outer s H E) J (defBody st) W)
    (h : ∀ cs Q, cs.length = ps.length → S cs Q → W (fnE J Q) (cs.map some ++ List.replicate (N.length - ps.length) none)) : FnOk P w K mg base CX0 (k + 1) f fd ps (spT K ps.length J S) := by
  refine F.ok Sc (fun vs H Q E h => h.1) (fun cdv A outer s H vs Q E hr hs => ?_)
  obtain ⟨hl, Fo, A0, cs, c0, hS⟩ := hs
  have hc : cs.length = ps.length := by
    have := c0.len
    rw [List.length_map, List.length_map] at this
    omega
  have B := hb cdv A outer s H E hr
  let io : List (Nat × Option V) := J.map fun j => (j, some (vs.getD j .non))
  have c1 : Core K Fo (cs.map some ++ List.replicate (N.length - ps.length) none) (L2.start N vs) H A0 := by
    obtain ⟨A₀, p, w⟩ := c0.rp
    refine ⟨c0.nd, c0.dj, c0.fa, A₀, p, ?_⟩
    unfold L2.start
    rw [hl]
    exact w.pad _
  have hpin : ∀ j ∈ J, (L2.start N vs)[j]? = some (some (vs.getD j .non)) := fun j hj => by
    have hj2 : j < vs.length := by rw [hl]; exact hJ j hj
    unfold L2.start
    rw [List.getElem?_append_left (by rw [List.length_map]; exact hj2), List.getElem?_map, List.getElem?_eq_getElem hj2]
    simp [List.getD, List.getElem?_eq_getElem hj2]
  refine ⟨_, B.run Fo io (by rw [List.map_map]; exact List.map_id _), _, A0, c1, ?_, B.mo _ _ _ ⟨?_, ?_, fun _ (h : False) => h.elim, fun _ (h : False) => h.elim⟩ (h cs _ hc hS)⟩
  · intro p hp
    obtain ⟨j, hj, rfl⟩ := List.mem_map.mp hp
    exact hpin j hj
  · intro ts' q σ' H' A' k' g' p'
    obtain ⟨fins, A2, q, w, nd, sub⟩ := fin_core (vs := pick J vs) k' q (by unfold pick; rw [List.length_map]) fun j x e => by
      have hx : x ∈ J := List.mem_of_getElem? e
      rw [p' (x, some (vs.getD x .non)) (List.mem_map.mpr ⟨x, hx, rfl⟩)]
      unfold pick
      rw [List.getElem?_map, e]
      rfl
    refine q .non H' A2 [] ⟨by rw [List.append_nil]; exact nd, fun a ha => k'.dj a (sub a (by simpa using ha)), .sc rfl .non, ?_, g'.less fun x hx => sub x (by simpa using hx)⟩
    rw [List.append_nil]
    exact w
  · intro r ts' q
    refine ⟨fun v σ' H' A' B' k' nb fb g' p' wr => ?_, fun _ _ _ _ _ _ => trivial⟩
    obtain ⟨fins, A2, q, w, nd, sub⟩ := fin_core (vs := pick J vs) k' q (by unfold pick; rw [List.length_map]) fun j x e => by
      have hx : x ∈ J := List.mem_of_getElem? e
      rw [p' (x, some (vs.getD x .non)) (List.mem_map.mpr ⟨x, hx, rfl⟩)]
      unfold pick
      rw [List.getElem?_map, e]
      rfl
    refine q v H' A2 B' ⟨List.nodup_append.mpr ⟨nd, nb, fun a ha b hb e => k'.dj a (sub a ha) (.inr (e ▸ hb))⟩, fun a ha => ?_, Ow.stay (stay_less fun a x => ?_) _ _ _ _ wr fun _ _ => rfl, w.stay (stay_less fun a x => ?_) fun _ _ => rfl, g'.less fun x hx => ?_⟩
    · exact (List.mem_append.mp ha).elim (fun y f => k'.dj a (sub a y) (.inl f)) (fb a)
    · rcases x with x | x
      · exact .inl (.inl x)
      · exact (List.mem_append.mp x).elim (fun y => .inr (sub a y)) fun y => .inl (.inr y)
    · rcases x with x | x
      · exact .inl (.inl x)
      · exact (List.mem_append.mp x).elim .inr fun y => .inl (.inr y)
    · exact (List.mem_append.mp hx).elim (fun y => List.mem_append_left _ (sub x y)) fun y => List.mem_append_right _ y
end

/-! ### calls -/
/-- the arguments' trees; what is lent is shared meanwhile -/
def argT : TSt → List Cap → (List TVal → TSt → Prop) → Prop
  | ts, [], k => k [] ts
  | ts, .val d :: cs, k => argT ts cs fun as t => k ((d, .fz) :: as) t
  | ts, .slot i :: cs, k => match ts[i]? with
    | some (some c) => argT (ts.set i (some (c.1, .fz))) cs fun as t => k ((c.1, .fz) :: as) t
    | _ => False
theorem argT_mo : ∀ {cs : List Cap} {ts : TSt} {k k' : List TVal → TSt → Prop}, (∀ as t, k as t → k' as t) → argT ts cs k → argT ts cs k'
  | [], _, _, _, h, q => h _ _ q
  | .val d :: cs, _, _, _, h, q => argT_mo (cs := cs) (fun _ _ => h _ _) q
  | .slot i :: cs, ts, _, _, h, q => by
    unfold argT at q ⊢
    split at q
    · exact argT_mo (cs := cs) (fun _ _ => h _ _) q
    · exact q.elim
section
variable {K : PySem.W.Frag} {F : Addr → Prop} {σ : St} {H : Hp}
theorem args_share : ∀ {cs : List Cap} {vs : List V} {ts : TSt} {A : List Addr} {k : List TVal → TSt → Prop}, Core K F ts σ H A → CapsR K H (fun a => F a ∨ a ∈ A) σ cs vs → argT ts cs k →
    ∃ as ts2 A2, k as ts2 ∧ Core K F ts2 σ H A2 ∧ (∀ a ∈ A2, a ∈ A) ∧ OwL K H (fun a => F a ∨ a ∈ A2) vs as []
  | [], [], ts, A, k, c, _, q => ⟨[], ts, A, q, c, fun _ => id, .nil⟩
  | .val d :: cs, v :: vs, ts, A, k, c, r, q => by
    obtain ⟨as, ts2, A2, q, c2, sub, w⟩ := args_share (cs := cs) c r.2 q
    exact ⟨_, ts2, A2, q, c2, sub, .cons (A := []) (B := []) (c := (d, .fz)) (.fz (Rp.stay (stay_less fun a x => x.imp id (sub a)) _ _ r.1)) w⟩
  | .slot i :: cs, v :: vs, ts, A, k, c, r, q => by
    unfold argT at q
    split at q
    · rename_i cc e
      obtain ⟨v', A1, h1, c1, sub1, rv⟩ := c.share e
      rw [show σ[i]? = some (some v) from r.1] at h1
      cases h1
      have r2 : CapsR K H (fun a => F a ∨ a ∈ A1) σ cs vs := CapsR.keep c (Chg.refl.less sub1) r.2
      obtain ⟨as, ts2, A2, q, c2, sub, w⟩ := args_share (cs := cs) c1 r2 q
      exact ⟨_, ts2, A2, q, c2, fun a ha => sub1 a (sub a ha), .cons (A := []) (B := []) (c := (cc.1, .fz)) (.fz (Rp.stay (stay_less fun a x => x.imp id (sub a)) _ _ rv)) w⟩
    · exact q.elim
  | [], _ :: _, _, _, _, _, r, _ => r.elim
  | .val _ :: _, [], _, _, _, _, r, _ => r.elim
  | .slot _ :: _, [], _, _, _, _, r, _ => r.elim
end
/-- f(e, ..), f changes none of its arguments -/
def eCall (S : FSpec) (Wa : WA) : WE := fun ts Q => Wa ts fun cs ts1 => argT ts1 cs fun as ts2 => S as fun r _ => if clean r = true then Q r ts1 else Q r ts2
/-- f(x, e, ..), f changes its first argument in place -/
def eCallIo (S : FSpec) (Wa : WA) : WE := fun ts Q => Wa ts fun cs ts1 => ∃ i cs', cs = .slot i :: cs' ∧ ∃ c, ts1[i]? = some (some c) ∧ argT (ts1.set i none) cs' fun as ts2 => S (c :: as) fun r fins => ∃ c', fins = [c'] ∧
  if clean r = true ∧ clean c' = true then Q r (ts1.set i (some c')) else Q r (ts2.set i (some c'))
section
variable {X : Cx} {k n : Nat} {f : Addr} {fd : FuncData} {ps : List Str} {S : FSpec} {x : Str} {p pos : Pos} {e : Expr} {es : List Expr} {Wa : WA}
theorem OwL.len0 {K H M vs cs B} (h : OwL K H M vs cs B) (e : vs = []) : cs = [] ∧ B = [] := by
  subst e
  cases h
  exact ⟨rfl, rfl⟩
structure FSok (n : Nat) (S : FSpec) : Prop where
  mo : MoF S
  len : ∀ as Q, S as Q → as.length = n
theorem call_pure {σ : St} {Q : VK} {K F H cs vs ts1 A1 H0 A0} (mS : FSok n S) (k1 : Core K F ts1 σ H A1) (g1 : Chg A0 H0 A1 H) (r1 : CapsR K H (fun a => F a ∨ a ∈ A1) σ cs vs)
    (q : argT ts1 cs fun as ts2 => S as fun r _ => if clean r = true then contE K F σ H0 A0 Q r ts1 else contE K F σ H0 A0 Q r ts2) : spT K n [] S vs H Q E0 := by
  obtain ⟨as, ts2, A2, q, k2, sub, w⟩ := args_share k1 r1 q
  have kA : Core K (fun a => F a ∨ a ∈ A2) (as.map some) (vs.map some) H [] := by
    refine ⟨List.nodup_nil, fun _ h => absurd h List.not_mem_nil, fun a f => f.elim (k2.fa a) (k2.there a), [], List.Perm.refl _, (w.stay (stay_less fun a x => ?_) fun _ _ => rfl).toS⟩
    exact x.elim id fun h => absurd h List.not_mem_nil
  refine ⟨w.len.trans (mS.len _ _ q), fun a => F a ∨ a ∈ A2, [], as, kA, mS.mo _ _ _ (fun r fins q v H' A' B R => ?_) q⟩
  obtain ⟨_, rfl⟩ := R.fin.len0 rfl
  have hsame : ∀ b o, H b = some o → H' b = some o := fun b o e => R.chg.ext b o e List.not_mem_nil
  have hnew : ∀ a ∈ B, H a = none := fun a ha => (R.chg.sub a (by simpa using ha)).resolve_left List.not_mem_nil
  have nB : B.Nodup := by simpa using R.nd
  by_cases hc : clean r = true
  · rw [if_pos hc] at q
    refine pure_contE k1 g1 q v H' B ⟨hsame, nB, hnew, Ow.anyC (fun b hb => ?_) R.ow hc⟩
    rcases hb with (hb | hb) | hb
    · exact .inl (.inl (.inl hb))
    · refine .inr ?_
      obtain ⟨xs, e⟩ := k1.there b hb
      exact ⟨xs, hsame b _ e⟩
    · exact .inl (.inr (by simpa using hb))
  · rw [if_neg hc] at q
    refine pure_contE k2 (g1.less sub) q v H' B ⟨hsame, nB, hnew, Ow.stay (stay_less fun a hb => ?_) _ _ _ _ R.ow fun _ _ => rfl⟩
    exact hb.imp id fun h => by simpa using h
theorem eCall_mo (mS : MoF S) (ma : Mo Wa) : Mo (eCall S Wa) := fun _ _ _ k => ma _ _ _ fun _ _ => argT_mo fun _ _ => mS _ _ _ fun r _ q => by
  split
  · rename_i h; rw [if_pos h] at q; exact k _ _ q
  · rename_i h; rw [if_neg h] at q; exact k _ _ q
theorem capsR_len {K H M σ} : ∀ {cs : List Cap} {vs : List V}, CapsR K H M σ cs vs → cs.length = vs.length
  | [], [], _ => rfl
  | _ :: cs, _ :: vs, h => by rw [List.length_cons, List.length_cons, capsR_len h.2]
  | [], _ :: _, h => h.elim
  | _ :: _, [], h => h.elim
theorem se_call (mS : FSok ps.length S) (Fk : FnOk X.prog X.w X.K X.mg X.base CX0 k f fd ps (spT X.K ps.length [] S)) (hr : Room k X.A) (hg : Gl X x) (hm : X.mg x = some (.ref f)) (hk : PySem.W.keepIn X.K (.ref f) = true) (hb : Binds X.K fd ps []) (ha : SA X (e :: es) Wa)
    (hdb : (x == ("__debug__" : Str)) = false := by decide) (he : starEach (e :: es) X.env = (false, eval e X.env) :: starEach es X.env := by rfl) (hpl : (backTo pos (starEach es X.env)).any (·.1) = false := by rfl) : SE X (.Call (.Name x p) (e :: es) [] pos) (eCall S Wa) := by
  refine ⟨eCall_mo mS.mo ha.mo, fun F => pe_weak (pe_call Fk hr hg hm hk hb .nil pass0 (ha.run F) hdb he hpl) ?_⟩
  rintro σ H Q ⟨ts, A, k0, q⟩
  refine ⟨ts, A, k0, ha.mo _ _ _ (fun cs ts1 q vs H1 A1 k1 g1 r1 => ?_) q⟩
  show spT X.K ps.length [] S (vs ++ []) H1 Q E0
  rw [List.append_nil]
  exact call_pure mS k1 g1 r1 q
theorem se_call0 (mS : FSok ps.length S) (Fk : FnOk X.prog X.w X.K X.mg X.base CX0 k f fd ps (spT X.K ps.length [] S)) (hr : Room k X.A) (hg : Gl X x) (hm : X.mg x = some (.ref f)) (hk : PySem.W.keepIn X.K (.ref f) = true) (hb : Binds X.K fd ps [])
    (hdb : (x == ("__debug__" : Str)) = false := by decide) : SE X (.Call (.Name x p) [] [] pos) (eCall S aNil) := by
  refine ⟨eCall_mo mS.mo (sa_nil (X := X)).mo, fun F => pe_weak (pe_call0 Fk hr hg hm hk hb .nil pass0 hdb) ?_⟩
  rintro σ H Q ⟨ts, A, k0, q⟩
  exact call_pure (cs := []) (vs := []) mS k0 Chg.refl trivial q
theorem eCallIo_mo (mS : MoF S) (ma : Mo Wa) : Mo (eCallIo S Wa) := fun _ _ _ k => ma _ _ _ fun _ _ ⟨i, cs', e, c, e2, q⟩ => ⟨i, cs', e, c, e2, argT_mo (fun _ _ => mS _ _ _ fun r _ ⟨c', ef, q⟩ => ⟨c', ef, by
  split
  · rename_i h; rw [if_pos h] at q; exact k _ _ q
  · rename_i h; rw [if_neg h] at q; exact k _ _ q⟩) q⟩

theorem CapsR.less {K H σ} {M M' : Addr → Prop} (l : ∀ a, M' a → M a) : ∀ {cs : List Cap} {vs : List V}, CapsR K H M σ cs vs → CapsR K H M' σ cs vs
  | [], [], _ => trivial
  | .val d :: cs, v :: vs, h => ⟨Rp.stay (stay_less l) _ _ h.1, CapsR.less l h.2⟩
  | .slot i :: cs, v :: vs, h => ⟨h.1, CapsR.less l h.2⟩
  | [], _ :: _, h => h.elim
  | .val _ :: _, [], h => h.elim
  | .slot _ :: _, [], h => h.elim
/-- the caller's state behind a call that changed what it was lent -/
theorem io_core {K : PySem.W.Frag} {F : Addr → Prop} {ts : TSt} {σ : St} {H1 H' : Hp} {As B0 A' B : List Addr} (k : Core K (fun a => F a ∨ a ∈ B0) ts σ H1 As) (ext : ∀ b o, H1 b = some o → b ∉ B0 → H' b = some o) (sub : ∀ a ∈ A' ++ B, a ∈ B0 ∨ H1 a = none) (nB0 : ∀ a ∈ B0, ¬ F a) (thB : ∀ a ∈ B, ∃ xs, H' a = some (.lst xs)) (thA : ∀ a ∈ A', ∃ xs, H' a = some (.lst xs)) :
    Core K (fun a => (F a ∨ a ∈ B) ∨ a ∈ A') ts σ H' As := by
  have no : ∀ a o, H1 a = some o → a ∉ B0 → a ∉ A' ++ B := fun a o e n h => by
    rcases sub a h with h | h
    · exact n h
    · rw [h] at e; cases e
  obtain ⟨A₀, p, w⟩ := k.rp
  refine ⟨k.nd, fun a ha f => ?_, fun a f => ?_, A₀, p, w.stay (fun b o e n => ?_) fun a ha => ?_⟩
  · obtain ⟨xs, e⟩ := k.there a ha
    have nb : a ∉ B0 := fun h => k.dj a ha (.inr h)
    have nn := no a _ e nb
    rcases f with (f | f) | f
    · exact k.dj a ha (.inl f)
    · exact nn (List.mem_append_right _ f)
    · exact nn (List.mem_append_left _ f)
  · rcases f with (f | f) | f
    · obtain ⟨xs, e⟩ := k.fa a (.inl f)
      exact ⟨xs, ext a _ e fun h => nB0 a h f⟩
    · exact thB a f
    · exact thA a f
  · have nb : b ∉ B0 := fun h => n (.inl (.inr h))
    have nn := no b o e nb
    refine ⟨ext b o e nb, fun x => ?_⟩
    rcases x with ((x | x) | x) | x
    · exact n (.inl (.inl x))
    · exact nn (List.mem_append_right _ x)
    · exact nn (List.mem_append_left _ x)
    · exact n (.inr x)
  · obtain ⟨xs, e⟩ := w.there a ha
    rw [e, ext a _ e fun h => k.dj a (p.mem_iff.mp ha) (.inr h)]
theorem call_io {σ : St} {Q : VK} {K : PySem.W.Frag} {F : Addr → Prop} {cs : List Cap} {vs : List V} {ts1 : TSt} {A1 A0 : List Addr} {H1 H0 : Hp} (mS : FSok n S) (k1 : Core K F ts1 σ H1 A1) (g1 : Chg A0 H0 A1 H1) (r1 : CapsR K H1 (fun a => F a ∨ a ∈ A1) σ cs vs)
    (q : ∃ i cs', cs = .slot i :: cs' ∧ ∃ c, ts1[i]? = some (some c) ∧ argT (ts1.set i none) cs' fun as ts2 => S (c :: as) fun r fins => ∃ c', fins = [c'] ∧
      if clean r = true ∧ clean c' = true then contE K F σ H0 A0 Q r (ts1.set i (some c')) else contE K F σ H0 A0 Q r (ts2.set i (some c'))) : spT K n [0] S vs H1 Q E0 := by
  obtain ⟨i, cs', rfl, c, e, q⟩ := q
  cases vs with
  | nil => exact r1.elim
  | cons v vs =>
    obtain ⟨v', B0, A2, hv, w0, hp, k2, nb0, fb0⟩ := k1.take e
    rw [show σ[i]? = some (some v) from r1.1] at hv
    cases hv
    have hi : i < ts1.length := (List.getElem?_eq_some_iff.mp e).1
    have hσ : σ[i]? = some (some v) := r1.1
    have sub2 : ∀ a, (F a ∨ a ∈ B0) ∨ a ∈ A2 → F a ∨ a ∈ A1 := fun a x => by
      rcases x with (x | x) | x
      · exact .inl x
      · exact .inr (hp.mem_iff.mpr (List.mem_append_left _ x))
      · exact .inr (hp.mem_iff.mpr (List.mem_append_right _ x))
    obtain ⟨as, ts2, A3, q, k3, sub3, w3⟩ := args_share k2 (r1.2.less sub2) q
    have kA : Core K (fun a => F a ∨ a ∈ A3) ((c :: as).map some) ((v :: vs).map some) H1 B0 := by
      refine ⟨nb0, fun a ha f => ?_, fun a f => ?_, B0 ++ [], by rw [List.append_nil], .sv (Ow.stay (stay_less fun a x => ?_) _ _ _ _ w0 fun _ _ => rfl) (w3.stay (stay_less fun a x => ?_) fun _ _ => rfl).toS⟩
      · exact f.elim (fb0 a ha) fun h => k3.dj a h (.inr ha)
      · exact f.elim (fun f => k1.fa a f) (k3.there a)
      · refine sub2 a ?_
        rcases x with (x | x) | x
        · exact .inl (.inl x)
        · exact .inr (sub3 a x)
        · exact .inl (.inr x)
      · rcases x with (x | x) | x
        · exact .inl (.inl x)
        · exact .inr x
        · exact .inl (.inr x)
    refine ⟨by
      have h1 := mS.len _ _ q
      have h2 := w3.len
      simp only [List.length_cons] at h1 ⊢
      omega, fun a => F a ∨ a ∈ A3, B0, c :: as, kA, mS.mo _ _ _ (fun r fins ⟨c', ef, q⟩ u H' A' B R => ?_) q⟩
    subst ef
    have wf : Ow K H' (fun a => (F a ∨ a ∈ A3) ∨ a ∈ A' ++ B) c'.2 v c'.1 A' := by
      have h := R.fin
      unfold pick at h
      cases h with
      | cons h r => cases r; rw [List.append_nil] at h ⊢; exact h
    have thB : ∀ a ∈ B, ∃ xs, H' a = some (.lst xs) := Ow.there _ _ _ _ R.ow
    have thA : ∀ a ∈ A', ∃ xs, H' a = some (.lst xs) := Ow.there _ _ _ _ wf
    obtain ⟨nA', nB, dAB⟩ := List.nodup_append.mp R.nd
    have fB : ∀ a ∈ B, ¬ F a := fun a ha f => R.dj a (List.mem_append_right _ ha) (.inl f)
    have step : ∀ (tsx : TSt) (As : List Addr), Core K (fun a => F a ∨ a ∈ B0) tsx σ H1 As → (∀ a ∈ As, a ∈ A2) → i < tsx.length → Ow K H' (fun a => ((F a ∨ a ∈ B) ∨ a ∈ A') ∨ a ∈ As) c'.2 v c'.1 A' → (∀ X : List Addr, (∀ a ∈ X, a ∈ As ∨ a ∈ A') → Ow K H' (fun a => (F a ∨ a ∈ B) ∨ a ∈ X) r.2 u r.1 B) →
        contE K F σ H0 A0 Q r (tsx.set i (some c')) → Q u H' := by
      intro tsx As kx sx hix wfx wrx qx
      have ky := io_core (A' := A') (B := B) kx (fun b o e n => R.chg.ext b o e n) R.chg.sub fb0 thB thA
      obtain ⟨A4, k4, s4⟩ := ky.put nA' (fun a ha f => f.elim (fun f => R.dj a (List.mem_append_left _ ha) (.inl f)) fun h => dAB a ha a h rfl) hix wfx
      rw [set_noop hσ] at k4
      refine qx u H' A4 B k4 nB fB (g1.trans ⟨fun b o e n => R.chg.ext b o e fun h => n (hp.mem_iff.mpr (List.mem_append_left _ h)), fun x hx => ?_⟩) (wrx A4 s4)
      have up : x ∈ A' ++ B → x ∈ A1 ∨ H1 x = none := fun h => (R.chg.sub x h).imp (fun h => hp.mem_iff.mpr (List.mem_append_left _ h)) id
      rcases List.mem_append.mp hx with hx | hx
      · rcases s4 x hx with h | h
        · exact .inl (hp.mem_iff.mpr (List.mem_append_right _ (sx x h)))
        · exact up (List.mem_append_left _ h)
      · exact up (List.mem_append_right _ hx)
    by_cases hc : clean r = true ∧ clean c' = true
    · rw [if_pos hc] at q
      have lst2 : ∀ a ∈ A2, ∃ xs, H' a = some (.lst xs) := fun a ha => by
        obtain ⟨xs, e⟩ := k2.there a ha
        exact ⟨xs, R.chg.ext a _ e fun h => k2.dj a ha (.inr h)⟩
      refine step (ts1.set i none) A2 k2 (fun _ => id) (by rw [List.length_set]; exact hi) (Ow.anyC (fun b x => ?_) wf hc.2) (fun Y hY => Ow.anyC (fun b x => ?_) R.ow hc.1) (by rw [List.set_set]; exact q)
      · rcases x with ((x | x) | x) | x
        · exact .inl (.inl (.inl x))
        · exact .inl (.inr (List.mem_append_right _ x))
        · exact .inl (.inr (List.mem_append_left _ x))
        · exact .inr (lst2 b x)
      · rcases x with (x | x) | x
        · exact .inl (.inl (.inl x))
        · exact .inl (.inr (List.mem_append_right _ x))
        · rcases hY b x with h | h
          · exact .inr (lst2 b h)
          · exact .inl (.inr (List.mem_append_left _ h))
    · rw [if_neg hc] at q
      have hi2 : i < ts2.length := by
        have h1 := k3.len
        have h2 := k1.len
        omega
      refine step ts2 A3 k3 sub3 hi2 (Ow.stay (stay_less fun b x => ?_) _ _ _ _ wf fun _ _ => rfl) (fun Y hY => Ow.stay (stay_less fun b x => ?_) _ _ _ _ R.ow fun _ _ => rfl) q
      · rcases x with ((x | x) | x) | x
        · exact .inl (.inl x)
        · exact .inr (List.mem_append_right _ x)
        · exact .inr (List.mem_append_left _ x)
        · exact .inl (.inr x)
      · rcases x with (x | x) | x
        · exact .inl (.inl x)
        · exact .inr (List.mem_append_right _ x)
        · exact (hY b x).elim (fun h => .inl (.inr h)) fun h => .inr (List.mem_append_left _ h)
theorem se_callIo (mS : FSok ps.length S) (Fk : FnOk X.prog X.w X.K X.mg X.base CX0 k f fd ps (spT X.K ps.length [0] S)) (hr : Room k X.A) (hg : Gl X x) (hm : X.mg x = some (.ref f)) (hk : PySem.W.keepIn X.K (.ref f) = true) (hb : Binds X.K fd ps []) (ha : SA X (e :: es) Wa)
    (hdb : (x == ("__debug__" : Str)) = false := by decide) (he : starEach (e :: es) X.env = (false, eval e X.env) :: starEach es X.env := by rfl) (hpl : (backTo pos (starEach es X.env)).any (·.1) = false := by rfl) : SE X (.Call (.Name x p) (e :: es) [] pos) (eCallIo S Wa) := by
  refine ⟨eCallIo_mo mS.mo ha.mo, fun F => pe_weak (pe_call Fk hr hg hm hk hb .nil pass0 (ha.run F) hdb he hpl) ?_⟩
  rintro σ H Q ⟨ts, A, k0, q⟩
  refine ⟨ts, A, k0, ha.mo _ _ _ (fun cs ts1 q vs H1 A1 k1 g1 r1 => ?_) q⟩
  show spT X.K ps.length [0] S (vs ++ []) H1 Q E0
  rw [List.append_nil]
  exact call_io mS k1 g1 r1 q
end
end TV
end

set_option Elab.async false
set_option linter.all false
set_option maxRecDepth 100000
/-! Part 8: the operations by trees. -/
section
namespace TV
open PySem PySem.Spec L2

section
variable {K : PySem.W.Frag} {H : Hp} {M : Addr → Prop} {o p : Opn} {v w : V}
theorem opn_str {x} (h : OpnR K H M o v) (e : o.1 = PyData.str x) : v = .str x := by
  have := h.1; rw [e] at this; cases this; rfl
theorem opn_bl {x} (h : OpnR K H M o v) (e : o.1 = PyData.bool x) : v = .bl x := by
  have := h.1; rw [e] at this; cases this; rfl
theorem opn_non (h : OpnR K H M o v) (e : o.1 = PyData.none) : v = .non := by
  have := h.1; rw [e] at this; cases this; rfl
theorem opn_lst {ds} (h : OpnR K H M o v) (e : o.1 = PyData.list ds) (b : o.2 = true) : ∃ a xs, v = .ref a ∧ H a = some (.lst xs) ∧ RpAll K H M xs ds := by
  have := h.2 b; rw [e] at this; exact this
theorem opn_tup {ds} (h : OpnR K H M o v) (e : o.1 = PyData.tuple ds) (b : o.2 = true) : ∃ a xs, v = .ref a ∧ SqT K H a xs ∧ RpAll K H M xs ds := by
  have := h.2 b; rw [e] at this; exact this
theorem opn_lstD {ds} (h : OpnR K H M o v) (e : o.1 = PyData.list ds) : ∃ a xs, v = .ref a ∧ SqL K H a xs ∧ DpAll K H xs ds := by
  have := h.1; rw [e] at this; cases this with | lst s r => exact ⟨_, _, rfl, s, r⟩
theorem opn_tupD {ds} (h : OpnR K H M o v) (e : o.1 = PyData.tuple ds) : ∃ a xs, v = .ref a ∧ SqT K H a xs ∧ DpAll K H xs ds := by
  have := h.1; rw [e] at this; cases this with | tup s r => exact ⟨_, _, rfl, s, r⟩
theorem q_int {Q : VK} {i m} (q : PureQ K H M Q (.int i, m)) : Q (.int i) H := q _ _ [] (.of_sc rfl (.int i))
theorem q_bl {Q : VK} {i m} (q : PureQ K H M Q (.bool i, m)) : Q (.bl i) H := q _ _ [] (.of_sc rfl (.bl i))
theorem q_str {Q : VK} {i m} (q : PureQ K H M Q (.str i, m)) : Q (.str i) H := q _ _ [] (.of_sc rfl (.str i))
theorem q_rp {Q : VK} {d} (q : PureQ K H M Q (d, .fz)) (r : Rp K H M v d) : Q v H := q _ _ [] (.of_rp r)
/-- a new list of shared items -/
theorem q_lst {Q : VK} {ds xs m} (q : PureQ K H M Q (.list ds, m)) (r : RpAll K H M xs ds) (hm : m = mkL .full ds ∨ m = .top) {p : Addr} (hp : H p = none) : Q (.ref p) (upd H p (.lst xs)) := by
  have r' : RpAll K (upd H p (.lst xs)) (fun a => M a ∨ a ∈ [p]) xs ds := RpAll.stay (fun b o e n => ⟨upd_keep hp b o e, fun x => x.elim n fun h => by
    rw [List.mem_singleton] at h
    subst h
    rw [hp] at e; cases e⟩) _ _ r
  refine q _ _ [p] ⟨upd_keep hp, by simp, fun a ha => by rw [List.mem_singleton] at ha; exact ha ▸ hp, ?_⟩
  rcases hm with rfl | rfl
  · unfold mkL
    split
    · rename_i h
      exact .fullL (A := []) upd_same (RpAll.full _ _ r' h.2)
    · exact .topL upd_same r'
  · exact .topL upd_same r'
/-- a new tuple of shared items -/
theorem q_tup {Q : VK} {ds xs} (q : PureQ K H M Q (.tuple ds, .fz)) (r : RpAll K H M xs ds) {p : Addr} (hp : H p = none) (np : ¬ M p) : Q (.ref p) (upd H p (.tup xs)) := by
  refine q _ _ [] ⟨upd_keep hp, List.nodup_nil, fun _ h => absurd h List.not_mem_nil, .fz (.tup (.inl ⟨.inl upd_same, fun x => x.elim np fun h => absurd h List.not_mem_nil⟩) (RpAll.stay (fun b o e n => ⟨upd_keep hp b o e, fun x => x.elim n fun h => absurd h List.not_mem_nil⟩) _ _ r))⟩
end

theorem tup_r {K : PySem.W.Frag} {H : Hp} {M : Addr → Prop} {a : Addr} {xs : List V} (hM : ∀ a, M a → ∃ xs, H a = some (.lst xs)) (h : SqT K H a xs) : TupR K H M a xs := h.imp (fun h => ⟨h, fun m => by
  obtain ⟨ys, e⟩ := hM a m
  rcases h with h | ⟨o, h⟩ <;> rw [e] at h <;> cases h⟩) id
theorem new_not {H : Hp} {M : Addr → Prop} {p : Addr} (hM : ∀ a, M a → ∃ xs, H a = some (.lst xs)) (hp : H p = none) : ¬ M p := fun m => by
  obtain ⟨ys, e⟩ := hM p m
  rw [hp] at e; cases e
/-! ### arithmetic -/
/-- factors that may be multiplied -/
def mulOk (i j : Int) : Prop := CMul i j ∨ CMulW i j
theorem mulOk_of {i j : Int} {a b : Nat} (ha : i.natAbs < 2 ^ a) (hb : j.natAbs < 2 ^ b) (h0 : 0 < a) (h1 : 0 < b) (h : a + b ≤ 1000000) : mulOk i j := .inr (wide_mul ha hb h0 h1 h)
theorem mulOk_l {i j : Int} (h1 : -18446744073709551616 < i) (h2 : i < 18446744073709551616) : mulOk i j := .inl (.inl ⟨h1, h2⟩)
theorem mulOk_r {i j : Int} (h1 : -18446744073709551616 < j) (h2 : j < 18446744073709551616) : mulOk i j := .inl (.inr ⟨h1, h2⟩)
/-- a divisor -/
def divOk (j : Int) : Prop := 0 < j ∧ j.natAbs < 2 ^ 9000
/-- a text n times -/
def repS (x : Str) (n : Nat) : Str := ⟨(List.replicate n x.cps.toList).flatten.toArray⟩
def fAdd : F2 := fun o p Q => match o.1, p.1 with
  | .int i, .int j => Q (.int (i + j), .full)
  | .str x, .str y => x.length + y.length ≤ sizeLine ∧ Q (.str (x ++ y), .full)
  | .list xs, .list ys => o.2 = true ∧ p.2 = true ∧ xs.length + ys.length ≤ sizeLine ∧ Q (.list (xs ++ ys), mkL .full (xs ++ ys))
  | .tuple xs, .tuple ys => o.2 = true ∧ p.2 = true ∧ xs.length + ys.length ≤ sizeLine ∧ Q (.tuple (xs ++ ys), .fz)
  | _, _ => False
def fSub : F2 := fun o p Q => match o.1, p.1 with
  | .int i, .int j => Q (.int (i - j), .full)
  | _, _ => False
def fMul : F2 := fun o p Q => match o.1, p.1 with
  | .int i, .int j => mulOk i j ∧ Q (.int (i * j), .full)
  | .str x, .int j => 0 ≤ j ∧ j ≤ 16777216 ∧ x.length * j.toNat ≤ sizeLine ∧ Q (.str (repS x j.toNat), .full)
  | .list xs, .int j => o.2 = true ∧ -(2 ^ 63) ≤ j ∧ j < 2 ^ 63 ∧ xs.length * j.toNat ≤ sizeLine ∧ Q (.list (List.replicate j.toNat xs).flatten, mkL .full (List.replicate j.toNat xs).flatten)
  | _, _ => False
def fDiv : F2 := fun o p Q => match o.1, p.1 with
  | .int i, .int j => divOk j ∧ Q (.int (i / j), .full)
  | _, _ => False
def fMod : F2 := fun o p Q => match o.1, p.1 with
  | .int i, .int j => 0 < j ∧ Q (.int (i % j), .full)
  | _, _ => False
def fPow : F2 := fun o p Q => match o.1, p.1 with
  | .int i, .int j => CPow i j ∧ Q (.int (i ^ j.toNat), .full)
  | _, _ => False
def fNeg : F1 := fun o Q => match o.1 with
  | .int i => Q (.int (-i), .full)
  | _ => False
local macro_rules | `(tactic| walk_at "mo2") => `(tactic| (intro o p Q Q' k h; obtain ⟨d, b⟩ := o; obtain ⟨e, c⟩ := p; cases d <;> cases e <;> first | exact False.elim h | exact k _ h | exact ⟨h.1, k _ h.2⟩ | exact ⟨h.1, h.2.1, h.2.2.1, k _ h.2.2.2⟩ | exact ⟨h.1, h.2.1, h.2.2.1, h.2.2.2.1, k _ h.2.2.2.2⟩))
section
variable {X : Cx}
theorem op_addT : OpR X (binaryOp .Add) (fun x y H Q => (rI0 fun i j => V.int (i + j)) x y H Q ∨ ((∃ i j, x = .str i ∧ y = .str j ∧ i.length + j.length ≤ sizeLine ∧ Q (.str (i ++ j)) H) ∨ (rCat x y H Q ∨ rCatA X.K x y H Q))) :=
  op_add.or (op_add_str.or (op_cat.or op_catA))
theorem sd_add {K} : Sd2 K fAdd (fun x y H Q => (rI0 fun i j => V.int (i + j)) x y H Q ∨ ((∃ i j, x = .str i ∧ y = .str j ∧ i.length + j.length ≤ sizeLine ∧ Q (.str (i ++ j)) H) ∨ (rCat x y H Q ∨ rCatA K x y H Q))) := by
  refine ⟨by walk_at "mo2", fun H M x y o p Q hM ho hp h => ?_⟩
  obtain ⟨d, b⟩ := o
  obtain ⟨e, c⟩ := p
  cases d <;> cases e <;> first | exact False.elim h | skip
  · exact .inl ⟨_, _, opn_int ho rfl, opn_int hp rfl, q_int h⟩
  · exact .inr (.inl ⟨_, _, opn_str ho rfl, opn_str hp rfl, h.1, q_str h.2⟩)
  · obtain ⟨b1, b2, l, q⟩ := h
    obtain ⟨a, xs, rfl, e1, r1⟩ := opn_lst ho rfl b1
    obtain ⟨a2, ys, rfl, e2, r2⟩ := opn_lst hp rfl b2
    exact .inr (.inr (.inl ⟨a, a2, xs, ys, rfl, rfl, e1, e2, by rw [r1.len, r2.len]; exact l, fun p hp => q_lst q (r1.append r2) (.inl rfl) hp⟩))
  · obtain ⟨b1, b2, l, q⟩ := h
    obtain ⟨a, xs, rfl, e1, r1⟩ := opn_tup ho rfl b1
    obtain ⟨a2, ys, rfl, e2, r2⟩ := opn_tup hp rfl b2
    refine .inr (.inr (.inr ⟨a, a2, xs, ys, rfl, rfl, e1, e2, by rw [r1.len, r2.len]; exact l, fun e => ?_, fun _ e => ?_, fun _ _ p hp => q_tup q (r1.append r2) hp (new_not hM hp)⟩))
    · subst e
      cases r1
      exact q_rp q (.tup (tup_r hM e2) r2)
    · subst e
      cases r2
      rw [List.append_nil] at q
      exact q_rp q (.tup (tup_r hM e1) r1)

theorem sd_sub {K} : Sd2 K fSub (rI0 fun i j => V.int (i - j)) := by
  refine ⟨by walk_at "mo2", fun H M x y o p Q hM ho hp h => ?_⟩
  obtain ⟨d, b⟩ := o
  obtain ⟨e, c⟩ := p
  cases d <;> cases e <;> first | exact False.elim h | exact ⟨_, _, opn_int ho rfl, opn_int hp rfl, q_int h⟩
def rRepS : R2 := fun x y H Q => ∃ i j, x = .str i ∧ y = .int j ∧ 0 ≤ j ∧ j ≤ 16777216 ∧ i.length * j.toNat ≤ sizeLine ∧ Q (.str (repS i j.toNat)) H
theorem foldl_cps (xs : List (Array Nat)) : ∀ a : Array Nat, (xs.foldl (· ++ ·) a).toList = a.toList ++ (xs.map Array.toList).flatten := by
  induction xs with
  | nil => intro a; simp
  | cons x xs ih => intro a; rw [List.foldl_cons, ih]; simp
theorem op_mulS : OpR X (binaryOp .Mult) rRepS := by
  intro pins s σ H x y v u Q I rx ry h
  obtain ⟨i, j, rfl, rfl, j0, j1, hz, q⟩ := h
  obtain ⟨t, rfl⟩ := rx
  obtain ⟨t', rfl⟩ := ry
  have hs : sizeLine = 16777216 := by decide
  have hd : ∀ h : ¬ j < 1, (i.length : Int) * j ≤ 16777216 := fun h => by
    have e : ((i.length * j.toNat : Nat) : Int) = (i.length : Int) * j := by rw [Int.natCast_mul, Int.toNat_of_nonneg j0]
    omega
  refine PySem.P.mul_str ?_ ?_ ?_ ?_
  · rw [decide_eq_false (by omega), decide_eq_false (by omega)]; rfl
  · intro h1 _ h3
    have := (Int.le_ediv_iff_mul_le (show 0 < j by omega)).mpr (show (i.length : Int) * j ≤ 2 ^ 63 - 1 by have := hd h1; omega)
    omega
  · intro h1 _
    refine decide_eq_false ?_
    omega
  · by_cases h1 : j < 1
    · have e : j.toNat = 0 := by omega
      rw [if_pos h1]
      rw [e] at q
      exact ⟨by decide, ⟨.str Str.empty, H, I.tok _, ⟨_, rfl⟩, q⟩⟩
    · rw [if_neg h1]
      by_cases h2 : (j == 1 || i.length == 0) = true
      · rw [if_pos h2]
        have e : repS i j.toNat = i := by
          unfold repS
          rcases Bool.or_eq_true_iff.mp h2 with g | g
          · rw [show j.toNat = 1 by have := beq_iff_eq.mp g; omega]
            simp
          · have g0 : i.cps.toList = [] := List.length_eq_zero_iff.mp (by have := beq_iff_eq.mp g; rw [Array.length_toList]; exact this)
            rw [g0]
            obtain ⟨c⟩ := i
            simp only [Array.toList_eq_nil_iff] at g0
            subst g0
            simp
        rw [e] at q
        exact ⟨.str i, H, I, ⟨_, rfl⟩, q⟩
      · rw [if_neg h2]
        have e : (⟨(List.replicate j.toNat i.cps).foldl (· ++ ·) #[]⟩ : Str) = repS i j.toNat := by
          unfold repS
          congr 1
          apply Array.toList_inj.mp
          rw [foldl_cps]
          simp
        rw [e]
        refine ⟨?_, ⟨.str (repS i j.toNat), H, I.tok _, ⟨_, rfl⟩, q⟩⟩
        have el : (repS i j.toNat).length = i.length * j.toNat := by
          unfold repS
          show (List.replicate j.toNat i.cps.toList).flatten.toArray.size = _
          rw [List.size_toArray, List.length_flatten, List.map_replicate, List.sum_replicate_nat, Nat.mul_comm, Array.length_toList]
          rfl
        omega
theorem op_mulT : OpR X (binaryOp .Mult) (fun x y H Q => (rI CMul fun i j => V.int (i * j)) x y H Q ∨ ((rI CMulW fun i j => V.int (i * j)) x y H Q ∨ (rRepS x y H Q ∨ rRep x y H Q))) := op_mul.or (op_mulW.or (op_mulS.or op_rep))
theorem rpAll_rep {K H M} {vs : List V} {ds : List PyData} (h : RpAll K H M vs ds) : ∀ n, RpAll K H M (List.replicate n vs).flatten (List.replicate n ds).flatten
  | 0 => .nil
  | n + 1 => by rw [List.replicate_succ, List.replicate_succ, List.flatten_cons, List.flatten_cons]; exact h.append (rpAll_rep h n)
theorem sd_mul {K} : Sd2 K fMul (fun x y H Q => (rI CMul fun i j => V.int (i * j)) x y H Q ∨ ((rI CMulW fun i j => V.int (i * j)) x y H Q ∨ (rRepS x y H Q ∨ rRep x y H Q))) := by
  refine ⟨by intro o p Q Q' k h; obtain ⟨d, b⟩ := o; obtain ⟨e, c⟩ := p; cases d <;> cases e <;> first | exact False.elim h | exact ⟨h.1, k _ h.2⟩ | exact ⟨h.1, h.2.1, h.2.2.1, k _ h.2.2.2⟩ | exact ⟨h.1, h.2.1, h.2.2.1, h.2.2.2.1, k _ h.2.2.2.2⟩, fun H M x y o p Q hM ho hp h => ?_⟩
  obtain ⟨d, b⟩ := o
  obtain ⟨e, c⟩ := p
  cases d <;> cases e <;> first | exact False.elim h | skip
  · rcases h.1 with h1 | h1
    · exact .inl ⟨_, _, opn_int ho rfl, opn_int hp rfl, h1, q_int h.2⟩
    · exact .inr (.inl ⟨_, _, opn_int ho rfl, opn_int hp rfl, h1, q_int h.2⟩)
  · exact .inr (.inr (.inl ⟨_, _, opn_str ho rfl, opn_int hp rfl, h.1, h.2.1, h.2.2.1, q_str h.2.2.2⟩))
  · obtain ⟨b1, l1, l2, l3, q⟩ := h
    obtain ⟨a, xs, rfl, e1, r1⟩ := opn_lst ho rfl b1
    exact .inr (.inr (.inr ⟨a, _, xs, rfl, opn_int hp rfl, e1, l1, l2, by rw [r1.len]; exact l3, fun p hp => q_lst q (rpAll_rep r1 _) (.inl rfl) hp⟩))
theorem sd_div {K} : Sd2 K fDiv (rI CDivW fun i j => V.int (i / j)) := by
  refine ⟨by walk_at "mo2", fun H M x y o p Q hM ho hp h => ?_⟩
  obtain ⟨d, b⟩ := o
  obtain ⟨e, c⟩ := p
  cases d <;> cases e <;> first | exact False.elim h | exact ⟨_, _, opn_int ho rfl, opn_int hp rfl, wide_div h.1.1 h.1.2 (by decide) (by decide), q_int h.2⟩
theorem sd_mod {K} : Sd2 K fMod (rI (fun _ j => 0 < j) fun i j => V.int (i % j)) := by
  refine ⟨by walk_at "mo2", fun H M x y o p Q hM ho hp h => ?_⟩
  obtain ⟨d, b⟩ := o
  obtain ⟨e, c⟩ := p
  cases d <;> cases e <;> first | exact False.elim h | exact ⟨_, _, opn_int ho rfl, opn_int hp rfl, h.1, q_int h.2⟩
theorem sd_pow {K} : Sd2 K fPow (rI CPow fun i j => V.int (i ^ j.toNat)) := by
  refine ⟨by walk_at "mo2", fun H M x y o p Q hM ho hp h => ?_⟩
  obtain ⟨d, b⟩ := o
  obtain ⟨e, c⟩ := p
  cases d <;> cases e <;> first | exact False.elim h | exact ⟨_, _, opn_int ho rfl, opn_int hp rfl, h.1, q_int h.2⟩
theorem sd_neg {K} : Sd1 K fNeg (rU fun i => V.int (-i)) := by
  refine ⟨fun o Q Q' k h => ?_, fun H M x o Q hM ho h => ?_⟩
  · obtain ⟨d, b⟩ := o
    cases d <;> first | exact False.elim h | exact k _ h
  · obtain ⟨d, b⟩ := o
    cases d <;> first | exact False.elim h | exact ⟨_, opn_int ho rfl, q_int h⟩
/-! ### comparisons -/
mutual
theorem dp_plain {K H} : ∀ (d : PyData) (v : V), Dp K H v d → d.plain = true
  | _, _, .non => rfl
  | _, _, .bl _ => rfl
  | _, _, .int _ => rfl
  | _, _, .str _ => rfl
  | _, _, .lst _ r => dpAll_plain _ _ r
  | _, _, .tup _ r => dpAll_plain _ _ r
theorem dpAll_plain {K H} : ∀ (ds : List PyData) (vs : List V), DpAll K H vs ds → PyData.plainAll ds = true
  | _, _, .nil => rfl
  | _, _, .cons h r => by
    show (PyData.plain _ && PyData.plainAll _) = true
    rw [dp_plain _ _ h, dpAll_plain _ _ r]
    rfl
end
def depOk (d e : PyData) : Prop := min d.depth e.depth ≤ 64
def fEq : F2 := fun o p Q => depOk o.1 p.1 ∧ Q (.bool (PyData.eqv o.1 p.1), .full)
def fNe : F2 := fun o p Q => depOk o.1 p.1 ∧ Q (.bool (!PyData.eqv o.1 p.1), .full)
def rEqP (K : PySem.W.Frag) (neg : Bool) : R2 := fun x y H Q => ∃ d e, Dp K H x d ∧ Dp K H y e ∧ depOk d e ∧ Q (.bl (if neg then !PyData.eqv d e else PyData.eqv d e)) H
theorem op_eqP (hu : X.A.units + 65 < cLine) : OpR X (compareOp .Eq) (rEqP X.K false) := by
  rintro pins s σ H x y v u Q I rx ry ⟨d, e, hd, he, hk, q⟩
  obtain ⟨as, r1⟩ := Dp.reads I d x v hd rx
  obtain ⟨bs, r2⟩ := Dp.reads I e y u he ry
  have hk' : min d.depth e.depth ≤ 64 := hk
  exact SeqAt.eq_plain r1 r2 (dp_plain _ _ hd) (dp_plain _ _ he) (by omega) ⟨.bl _, H, I, rfl, q⟩
theorem op_neP (hu : X.A.units + 65 < cLine) : OpR X (compareOp .NotEq) (rEqP X.K true) := by
  rintro pins s σ H x y v u Q I rx ry ⟨d, e, hd, he, hk, q⟩
  obtain ⟨as, r1⟩ := Dp.reads I d x v hd rx
  obtain ⟨bs, r2⟩ := Dp.reads I e y u he ry
  have hk' : min d.depth e.depth ≤ 64 := hk
  exact SeqAt.ne_plain r1 r2 (dp_plain _ _ hd) (dp_plain _ _ he) (by omega) ⟨.bl _, H, I, rfl, q⟩
theorem sd_eq {K} : Sd2 K fEq (rEqP K false) := ⟨fun o p Q Q' k h => ⟨h.1, k _ h.2⟩, fun H M x y o p Q hM ho hp h => ⟨_, _, ho.1, hp.1, h.1, q_bl h.2⟩⟩
theorem sd_ne {K} : Sd2 K fNe (rEqP K true) := ⟨fun o p Q Q' k h => ⟨h.1, k _ h.2⟩, fun H M x y o p Q hM ho hp h => ⟨_, _, ho.1, hp.1, h.1, q_bl h.2⟩⟩
/-- ints by order; texts by theirs; tuples of ints by theirs -/
def intsOf : List PyData → Option (List Int)
  | [] => some []
  | .int i :: ds => (intsOf ds).map (i :: ·)
  | _ :: _ => none
theorem intsOf_map : ∀ ns : List Int, intsOf (ns.map PyData.int) = some ns
  | [] => rfl
  | n :: ns => by show (intsOf (ns.map PyData.int)).map (n :: ·) = _; rw [intsOf_map ns]; rfl
theorem intsOf_eq : ∀ {ds : List PyData} {ns : List Int}, intsOf ds = some ns → ds = ns.map PyData.int
  | [], ns, e => by cases e; rfl
  | .int i :: ds, ns, e => by
    obtain ⟨ms, h, rfl⟩ := Option.map_eq_some_iff.mp (show (intsOf ds).map (i :: ·) = some ns from e)
    rw [intsOf_eq h]; rfl
  | .none :: _, _, e => nomatch e
  | .bool _ :: _, _, e => nomatch e
  | .str _ :: _, _, e => nomatch e
  | .list _ :: _, _, e => nomatch e
  | .tuple _ :: _, _, e => nomatch e
  | .dict _ :: _, _, e => nomatch e
theorem dp_ints {K H} : ∀ {ns : List Int} {vs : List V}, DpAll K H vs (ns.map PyData.int) → vs = ns.map V.int
  | [], _, h => by cases h; rfl
  | n :: ns, _, h => by
    cases h with
    | cons h r => cases h; rw [dp_ints r]; rfl
def boolsOf : List PyData → Option (List Bool)
  | [] => some []
  | .bool i :: ds => (boolsOf ds).map (i :: ·)
  | _ :: _ => none
theorem boolsOf_map : ∀ ns : List Bool, boolsOf (ns.map PyData.bool) = some ns
  | [] => rfl
  | n :: ns => by show (boolsOf (ns.map PyData.bool)).map (n :: ·) = _; rw [boolsOf_map ns]; rfl
theorem boolsOf_eq : ∀ {ds : List PyData} {ns : List Bool}, boolsOf ds = some ns → ds = ns.map PyData.bool
  | [], ns, e => by cases e; rfl
  | .bool i :: ds, ns, e => by
    obtain ⟨ms, h, rfl⟩ := Option.map_eq_some_iff.mp (show (boolsOf ds).map (i :: ·) = some ns from e)
    rw [boolsOf_eq h]; rfl
  | .none :: _, _, e => nomatch e
  | .int _ :: _, _, e => nomatch e
  | .str _ :: _, _, e => nomatch e
  | .list _ :: _, _, e => nomatch e
  | .tuple _ :: _, _, e => nomatch e
  | .dict _ :: _, _, e => nomatch e
theorem dp_bools {K H} : ∀ {ns : List Bool} {vs : List V}, DpAll K H vs (ns.map PyData.bool) → vs = ns.map V.bl
  | [], _, h => by cases h; rfl
  | n :: ns, _, h => by
    cases h with
    | cons h r => cases h; rw [dp_bools r]; rfl
def fCmp (p : Int → Int → Bool) : F2 := fun o q Q => match o.1, q.1 with
  | .int i, .int j => Q (.bool (p i j), .full)
  | _, _ => False
theorem sd_cmp {K} {p : Int → Int → Bool} : Sd2 K (fCmp p) (rI0 fun i j => V.bl (p i j)) := by
  refine ⟨by walk_at "mo2", fun H M x y o p Q hM ho hp h => ?_⟩
  obtain ⟨d, b⟩ := o
  obtain ⟨e, c⟩ := p
  cases d <;> cases e <;> first | exact False.elim h | exact ⟨_, _, opn_int ho rfl, opn_int hp rfl, q_bl h⟩
def fLt : F2 := fun o q Q => match o.1, q.1 with
  | .int i, .int j => Q (.bool (decide (i < j)), .full)
  | .str x, .str y => Q (.bool (decide (x.cps.toList < y.cps.toList)), .full)
  | .tuple xs, .tuple ys => ∃ ns ms, intsOf xs = some ns ∧ intsOf ys = some ms ∧ Q (.bool (HT.lexLt ns ms), .full)
  | _, _ => False
theorem sd_lt {K} : Sd2 K fLt (fun x y H Q => (rI0 fun i j => V.bl (decide (i < j))) x y H Q ∨ ((∃ i j, x = .str i ∧ y = .str j ∧ Q (.bl (decide (i.cps.toList < j.cps.toList))) H) ∨ rLtT K x y H Q)) := by
  refine ⟨by intro o p Q Q' k h; obtain ⟨d, b⟩ := o; obtain ⟨e, c⟩ := p; cases d <;> cases e <;> first | exact False.elim h | exact k _ h | exact h.imp fun _ h => h.imp fun _ h => ⟨h.1, h.2.1, k _ h.2.2⟩, fun H M x y o p Q hM ho hp h => ?_⟩
  obtain ⟨d, b⟩ := o
  obtain ⟨e, c⟩ := p
  cases d <;> cases e <;> first | exact False.elim h | skip
  · exact .inl ⟨_, _, opn_int ho rfl, opn_int hp rfl, q_bl h⟩
  · exact .inr (.inl ⟨_, _, opn_str ho rfl, opn_str hp rfl, q_bl h⟩)
  · obtain ⟨ns, ms, e1, e2, q⟩ := h
    obtain ⟨a, xs, rfl, s1, r1⟩ := opn_tupD ho rfl
    obtain ⟨a2, ys, rfl, s2, r2⟩ := opn_tupD hp rfl
    rw [intsOf_eq e1] at r1
    rw [intsOf_eq e2] at r2
    rw [dp_ints r1] at s1
    rw [dp_ints r2] at s2
    exact .inr (.inr ⟨a, a2, ns, ms, rfl, rfl, s1, s2, q_bl q⟩)
theorem op_ltA (hu : X.A.units + 65 < cLine) : OpR X (compareOp .Lt) (fun x y H Q => (rI0 fun i j => V.bl (decide (i < j))) x y H Q ∨ ((∃ i j, x = .str i ∧ y = .str j ∧ Q (.bl (decide (i.cps.toList < j.cps.toList))) H) ∨ rLtT X.K x y H Q)) := op_lt.or (op_lt_str.or (op_ltT (by omega)))
/-- x is None -/
def isNone : PyData → Bool
  | .none => true
  | _ => false
def fIs : F2 := fun o q Q => q.1 = .none ∧ Q (.bool (isNone o.1), .full)
def fIsNot : F2 := fun o q Q => q.1 = .none ∧ Q (.bool (!isNone o.1), .full)
theorem isNone_dp {K H v d} (h : Dp K H v d) : decide (v = .non) = isNone d := by
  cases h <;> first | rfl | exact decide_eq_false (fun e => nomatch e)
theorem sd_is {K} : Sd2 K fIs (fun x y H Q => y = .non ∧ Q (.bl (decide (x = .non))) H) := ⟨fun o p Q Q' k h => ⟨h.1, k _ h.2⟩, fun H M x y o p Q hM ho hp h => ⟨opn_non hp h.1, by rw [isNone_dp ho.1]; exact q_bl h.2⟩⟩
theorem sd_isNot {K} : Sd2 K fIsNot (fun x y H Q => y = .non ∧ Q (.bl (!decide (x = .non))) H) := ⟨fun o p Q Q' k h => ⟨h.1, k _ h.2⟩, fun H M x y o p Q hM ho hp h => ⟨opn_non hp h.1, by rw [isNone_dp ho.1]; exact q_bl h.2⟩⟩
/-- x is True, x is False -/
def isBl (b : Bool) : PyData → Bool
  | .bool a => a == b
  | _ => false
def rIsC (K : PySem.W.Frag) (neg : Bool) : R2 := fun x y H Q => ∃ d b, Dp K H x d ∧ y = .bl b ∧ Q (.bl (if neg then !isBl b d else isBl b d)) H
def fIsC (neg : Bool) : F2 := fun o q Q => match q.1 with
  | .bool b => Q (.bool (if neg then !isBl b o.1 else isBl b o.1), .full)
  | _ => False
theorem isC_val {K H x d v b} (h : Dp K H x d) (r : RelV x v) : plainIs v (.bool b) = true ∧ (v == Value.bool b) = isBl b d := by
  cases h <;> first
    | (cases r; exact ⟨rfl, rfl⟩)
    | (cases r; refine ⟨rfl, ?_⟩; simp only [isBl]; rename_i a; cases a <;> cases b <;> rfl)
    | (obtain ⟨t, rfl⟩ := r; exact ⟨rfl, rfl⟩)
theorem op_isC {X : Cx} : OpR X (compareOp .Is) (rIsC X.K false) := by
  intro pins s σ H x y v u Q I rx ry h
  obtain ⟨d, b, h1, rfl, q⟩ := h
  cases (show u = Value.bool b from ry)
  have e := isC_val (b := b) h1 rx
  exact wpAny_is_plain e.1 (fin_bl I q e.2.symm)
theorem op_notC {X : Cx} : OpR X (compareOp .IsNot) (rIsC X.K true) := by
  intro pins s σ H x y v u Q I rx ry h
  obtain ⟨d, b, h1, rfl, q⟩ := h
  cases (show u = Value.bool b from ry)
  have e := isC_val (b := b) h1 rx
  exact wpAny_isNot_plain e.1 (fin_bl I q (congrArg not e.2.symm))
theorem sd_isC {K neg} : Sd2 K (fIsC neg) (rIsC K neg) := by
  refine ⟨fun o q Q Q' k h => ?_, fun H M x y o q Q hM ho hp h => ?_⟩
  · obtain ⟨d, b⟩ := q
    cases d <;> first | exact False.elim h | exact k _ h
  · obtain ⟨d, c⟩ := q
    cases d <;> first | exact False.elim h | skip
    rename_i b
    exact ⟨_, b, ho.1, opn_bl hp rfl, q_bl h⟩
/-- x in a list or tuple -/
def inOk (d : PyData) (ds : List PyData) : Prop := min (PyData.depthAll ds) d.depth ≤ 60
def fIn (neg : Bool) : F2 := fun o p Q => match p.1 with
  | .list ds => inOk o.1 ds ∧ Q (.bool (if neg then !ds.any (fun y => PyData.eqv y o.1) else ds.any fun y => PyData.eqv y o.1), .full)
  | .tuple ds => inOk o.1 ds ∧ Q (.bool (if neg then !ds.any (fun y => PyData.eqv y o.1) else ds.any fun y => PyData.eqv y o.1), .full)
  | _ => False
def rInP (K : PySem.W.Frag) (neg : Bool) : R2 := fun x y H Q => ∃ d ds, Dp K H x d ∧ (Dp K H y (.list ds) ∨ Dp K H y (.tuple ds)) ∧ inOk d ds ∧ Q (.bl (if neg then !ds.any (fun y => PyData.eqv y d) else ds.any fun y => PyData.eqv y d)) H
theorem op_inP (hu : X.A.units + 65 < cLine) : OpR X (compareOp .In) (rInP X.K false) := by
  rintro pins s σ H x y v u Q I rx ry ⟨d, ds, hd, he, hk, q⟩
  obtain ⟨as, r1⟩ := Dp.reads I d x v hd rx
  have hk' : min (PyData.depthAll ds) d.depth ≤ 60 := hk
  rcases he with he | he
  · obtain ⟨bs, r2⟩ := Dp.reads I _ y u he ry
    exact SeqAt.in_list_data r2 r1 (dp_plain _ _ he) (dp_plain _ _ hd) (by omega) ⟨.bl _, H, I, rfl, q⟩
  · obtain ⟨bs, r2⟩ := Dp.reads I _ y u he ry
    exact SeqAt.in_tuple_data r2 r1 (dp_plain _ _ he) (dp_plain _ _ hd) (by omega) ⟨.bl _, H, I, rfl, q⟩
theorem op_notinP (hu : X.A.units + 65 < cLine) : OpR X (compareOp .NotIn) (rInP X.K true) := by
  rintro pins s σ H x y v u Q I rx ry ⟨d, ds, hd, he, hk, q⟩
  obtain ⟨as, r1⟩ := Dp.reads I d x v hd rx
  have hk' : min (PyData.depthAll ds) d.depth ≤ 60 := hk
  rcases he with he | he
  · obtain ⟨bs, r2⟩ := Dp.reads I _ y u he ry
    exact SeqAt.notIn_list_data r2 r1 (dp_plain _ _ he) (dp_plain _ _ hd) (by omega) ⟨.bl _, H, I, rfl, q⟩
  · obtain ⟨bs, r2⟩ := Dp.reads I _ y u he ry
    exact SeqAt.notIn_tuple_data r2 r1 (dp_plain _ _ he) (dp_plain _ _ hd) (by omega) ⟨.bl _, H, I, rfl, q⟩
theorem sd_in {K neg} : Sd2 K (fIn neg) (rInP K neg) := by
  refine ⟨by intro o p Q Q' k h; obtain ⟨e, c⟩ := p; cases e <;> first | exact False.elim h | exact ⟨h.1, k _ h.2⟩, fun H M x y o p Q hM ho hp h => ?_⟩
  obtain ⟨e, c⟩ := p
  cases e <;> first | exact False.elim h | skip
  · exact ⟨_, _, ho.1, .inl hp.1, h.1, q_bl h.2⟩
  · exact ⟨_, _, ho.1, .inr hp.1, h.1, q_bl h.2⟩
/-! ### subscripts and slices -/
mutual
theorem dp_flat {K H} {M : Addr → Prop} (hM : ∀ a, M a → ∃ xs, H a = some (.lst xs)) : ∀ (d : PyData) (v : V), Dp K H v d → noList d = true → Rp K H M v d
  | _, _, .non, _ => .non
  | _, _, .bl b, _ => .bl b
  | _, _, .int i, _ => .int i
  | _, _, .str x, _ => .str x
  | _, _, .lst _ _, e => by simp [noList] at e
  | _, _, .tup h r, e => .tup (tup_r hM h) (dpAll_flat hM _ _ r (by simpa [noList] using e))
theorem dpAll_flat {K H} {M : Addr → Prop} (hM : ∀ a, M a → ∃ xs, H a = some (.lst xs)) : ∀ (ds : List PyData) (vs : List V), DpAll K H vs ds → noLists ds = true → RpAll K H M vs ds
  | _, _, .nil, _ => .nil
  | _, _, .cons h r, e => by
    simp only [noLists, Bool.and_eq_true] at e
    exact .cons (dp_flat hM _ _ h e.1) (dpAll_flat hM _ _ r e.2)
end
def fIx : F2 := fun o p Q => match o.1, p.1 with
  | .list ds, .int i => ∃ d, atI ds i = some d ∧ (o.2 = true ∨ noList d = true) ∧ Q (d, .fz)
  | .tuple ds, .int i => ∃ d, atI ds i = some d ∧ (o.2 = true ∨ noList d = true) ∧ Q (d, .fz)
  | .str x, .int i => x.length ≤ sizeLine ∧ ∃ c, atI x.cps.toList i = some c ∧ Q (.str ⟨#[c]⟩, .full)
  | _, _ => False
theorem atI_len {α β : Type} {xs : List α} {ys : List β} {i : Int} {y : β} (h : atI ys i = some y) (l : xs.length = ys.length) : ∃ j : Nat, ys[j]? = some y ∧ ∀ x, xs[j]? = some x → atI xs i = some x := by
  unfold atI at h ⊢
  obtain ⟨j, h1, h2⟩ := Option.bind_eq_some_iff.mp h
  exact ⟨j, h2, fun x hx => by rw [l, h1]; exact hx⟩
theorem sd_ix {K} : Sd2 K fIx (rIx K) := by
  refine ⟨by intro o p Q Q' k h; obtain ⟨d, b⟩ := o; obtain ⟨e, c⟩ := p; cases d <;> cases e <;> first | exact False.elim h | (obtain ⟨d, h1, h2, h3⟩ := h; exact ⟨d, h1, h2, k _ h3⟩) | (obtain ⟨h0, d, h1, h2⟩ := h; exact ⟨h0, d, h1, k _ h2⟩), fun H M x y o p Q hM ho hp h => ?_⟩
  obtain ⟨d, b⟩ := o
  obtain ⟨e, c⟩ := p
  cases d <;> cases e <;> first | exact False.elim h | skip
  · obtain ⟨l, c, hc, q⟩ := h
    exact .inr (.inr ⟨_, _, c, opn_str ho rfl, opn_int hp rfl, l, hc, q_str q⟩)
  · obtain ⟨d, h1, h2, q⟩ := h
    rcases h2 with h2 | h2
    · obtain ⟨a, xs, rfl, s, r⟩ := opn_lst ho rfl h2
      obtain ⟨j, g1, g2⟩ := atI_len (xs := xs) h1 r.len
      obtain ⟨v, hv, rv⟩ := r.get j g1
      exact .inl ⟨a, xs, _, v, rfl, opn_int hp rfl, .inl (.inl s), g2 v hv, q_rp q rv⟩
    · obtain ⟨a, xs, rfl, s, r⟩ := opn_lstD ho rfl
      obtain ⟨j, g1, g2⟩ := atI_len (xs := xs) h1 (dpAll_len r)
      obtain ⟨v, hv, rv⟩ := dpAll_get j r g1
      exact .inl ⟨a, xs, _, v, rfl, opn_int hp rfl, s, g2 v hv, q_rp q (dp_flat hM _ _ rv h2)⟩
  · obtain ⟨d, h1, h2, q⟩ := h
    rcases h2 with h2 | h2
    · obtain ⟨a, xs, rfl, s, r⟩ := opn_tup ho rfl h2
      obtain ⟨j, g1, g2⟩ := atI_len (xs := xs) h1 r.len
      obtain ⟨v, hv, rv⟩ := r.get j g1
      exact .inr (.inl ⟨a, xs, _, v, rfl, opn_int hp rfl, s, g2 v hv, q_rp q rv⟩)
    · obtain ⟨a, xs, rfl, s, r⟩ := opn_tupD ho rfl
      obtain ⟨j, g1, g2⟩ := atI_len (xs := xs) h1 (dpAll_len r)
      obtain ⟨v, hv, rv⟩ := dpAll_get j r g1
      exact .inr (.inl ⟨a, xs, _, v, rfl, opn_int hp rfl, s, g2 v hv, q_rp q (dp_flat hM _ _ rv h2)⟩)
/-! slices -/
abbrev WP := TSt → (Option Int → TSt → Prop) → Prop
def contP (K : PySem.W.Frag) (F : Addr → Prop) (σ : St) (H : Hp) (A : List Addr) (Q : Option Int → Hp → Prop) (b : Option Int) (ts' : TSt) : Prop := ∀ H' A', Core K F ts' σ H' A' → Chg A H A' H' → Q b H'
def rdP (K : PySem.W.Frag) (F : Addr → Prop) (W : WP) : TO := fun σ H Q => ∃ ts A, Core K F ts σ H A ∧ W ts (contP K F σ H A Q)
structure SPo (X : Cx) (e : Option Expr) (W : WP) : Prop where
  mo : Mo W
  run : ∀ F, PO X e (rdP X.K F W)
theorem po_weak {e : Option Expr} {t t' : TO} (h : PO X e t) (k : ∀ σ H Q, t' σ H Q → t σ H Q) : PO X e t' := ⟨fun pins s σ H Q I q => h.run pins s σ H Q I (k σ H Q q)⟩
def pNo : WP := fun ts Q => Q none ts
theorem sp_none : SPo X none pNo := ⟨fun _ _ _ k => k _ _, fun F => po_weak po_none fun σ H Q ⟨ts, A, k, q⟩ => q H A k Chg.refl⟩
def pSo (wa : WO) : WP := fun ts Q => wa ts fun c ts1 => resP ts1 c fun o => ∃ i, o.1 = .int i ∧ Q (some i) ts1
theorem sp_some {e : Expr} {wa : WO} (h : SO X e wa) : SPo X (some e) (pSo wa) := by
  refine ⟨fun _ _ _ k => h.mo _ _ _ fun _ _ => resP_mo fun _ ⟨i, e, q⟩ => ⟨i, e, k _ _ q⟩, fun F => po_weak (po_some (h.run F)) ?_⟩
  rintro σ H Q ⟨ts, A, k, q⟩
  refine ⟨ts, A, k, h.mo _ _ _ (fun c ts1 q v H1 A1 k1 g1 r1 => ?_) q⟩
  obtain ⟨o, ho, i, e, q⟩ := cap_res k1 r1 q
  exact ⟨i, opn_int ho e, q H1 A1 k1 g1⟩
def cutD {α : Type} (xs : List α) (lo hi : Option Int) : List α := (xs.drop (HT.sIx xs.length 0 lo)).take (HT.sIx xs.length xs.length hi - HT.sIx xs.length 0 lo)
theorem cutD_rp {K H} {M : Addr → Prop} {vs : List V} {ds : List PyData} (h : RpAll K H M vs ds) (lo hi : Option Int) : RpAll K H M (cutV vs lo hi) (cutD ds lo hi) := by
  unfold cutV cutD
  rw [h.len]
  exact (h.drop _).take _
def fSl (o : Opn) (l u : Option Int) (Q : TVal → Prop) : Prop := match o.1 with
  | .list ds => o.2 = true ∧ Q (.list (cutD ds l u), mkL .full (cutD ds l u))
  | .tuple ds => o.2 = true ∧ Q (.tuple (cutD ds l u), .fz)
  | .str x => x.length ≤ sizeLine ∧ Q (.str (L2.cutS x l u), .full)
  | _ => False
def eSl (wa : WO) (wl wh : WP) : WE := fun ts Q => wa ts fun c ts1 => wl ts1 fun l ts2 => wh ts2 fun u ts3 => resP ts3 c fun o => fSl o l u fun r => Q r ts3
theorem fSl_mo {o l u} {Q Q' : TVal → Prop} (k : ∀ c, Q c → Q' c) (h : fSl o l u Q) : fSl o l u Q' := by
  obtain ⟨d, b⟩ := o
  cases d <;> first | exact False.elim h | exact ⟨h.1, k _ h.2⟩
theorem sl_all : SlR X (fun x lo hi H Q => rSlL X.K x lo hi H Q ∨ (rSlA X.K x lo hi H Q ∨ rSlS x lo hi H Q)) := sl_list.or (sl_tupA.or sl_str)
theorem se_sl {e : Expr} {lo hi : Option Expr} {p2 pos : Pos} {wa : WO} {wl wh : WP} (ha : SO X e wa) (hl : SPo X lo wl) (hh : SPo X hi wh) : SE X (.Subscript e (.Slice lo hi none p2) pos) (eSl wa wl wh) := by
  refine ⟨fun _ _ _ k => ha.mo _ _ _ fun _ _ => hl.mo _ _ _ fun _ _ => hh.mo _ _ _ fun _ _ => resP_mo fun _ => fSl_mo fun _ => k _ _, fun F => pe_weak (pe_slice sl_all (ha.run F) (hl.run F) (hh.run F)) ?_⟩
  rintro σ H Q ⟨ts, A, k, q⟩
  refine ⟨ts, A, k, ha.mo _ _ _ (fun c ts1 q v H1 A1 k1 g1 r1 => ?_) q⟩
  refine ⟨ts1, A1, k1, hl.mo _ _ _ (fun l ts2 q H2 A2 k2 g2 => ?_) q⟩
  refine ⟨ts2, A2, k2, hh.mo _ _ _ (fun u ts3 q H3 A3 k3 g3 => ?_) q⟩
  obtain ⟨o, ho, q⟩ := cap_res k3 ((r1.keep k1 g2).keep k2 g3) q
  have q' := fSl_mo (fun c => pure_contE k3 ((g1.trans g2).trans g3)) q
  obtain ⟨d, b⟩ := o
  have hM := k3.lists
  cases d <;> first | exact False.elim q' | skip
  · exact .inr (.inr ⟨_, opn_str ho rfl, q'.1, q_str q'.2⟩)
  · obtain ⟨a, xs, rfl, s, r⟩ := opn_lst ho rfl q'.1
    exact .inl ⟨a, xs, rfl, .inl (.inl s), fun p hp => q_lst q'.2 (cutD_rp r l u) (.inl rfl) hp⟩
  · obtain ⟨a, xs, rfl, s, r⟩ := opn_tup ho rfl q'.1
    refine .inr (.inl ⟨a, xs, rfl, s, fun hw => ?_, fun hw p hp => q_tup q'.2 (cutD_rp r l u) hp (new_not hM hp)⟩)
    have e : cutD (‹List PyData›) l u = ‹List PyData› := by
      unfold cutD
      rw [← r.len, hw.1, hw.2, Nat.sub_zero, List.drop_zero, r.len, List.take_length]
    have q2 : PureQ X.K H3 (fun a => F a ∨ a ∈ A3) Q (.tuple (cutD _ l u), .fz) := q'.2
    rw [e] at q2
    exact q_rp q2 (.tup (tup_r hM s) r)

/-! ### built-in calls -/
theorem opns1 {K H M} {o : Opn} {os vs} (h : OpnsR K H M (o :: os) vs) : ∃ v ws, vs = v :: ws ∧ OpnR K H M o v ∧ OpnsR K H M os ws := by
  cases vs with
  | nil => exact h.elim
  | cons v ws => exact ⟨v, ws, rfl, h.1, h.2⟩
theorem opns0 {K H M vs} (h : OpnsR K H M [] vs) : vs = [] := by
  cases vs with
  | nil => rfl
  | cons _ _ => exact h.elim
def on1 (f : F1) : FN := fun os Q => match os with
  | [o] => f o Q
  | _ => False
def on2 (f : F2) : FN := fun os Q => match os with
  | [o, p] => f o p Q
  | _ => False
theorem on1_mo {f : F1} (h : Mo1 f) : MoN (on1 f) := fun os Q Q' k q => by
  match os, q with
  | [o], q => exact h _ _ _ k q
theorem on2_mo {f : F2} (h : Mo2 f) : MoN (on2 f) := fun os Q Q' k q => by
  match os, q with
  | [o, p], q => exact h _ _ _ _ k q
theorem sdN1 {K f r} (mo : Mo1 f) (h : ∀ H M x o Q, (∀ a, M a → ∃ xs, H a = some (.lst xs)) → OpnR K H M o x → f o (PureQ K H M Q) → r [x] H Q) : SdN K (on1 f) r := by
  refine ⟨on1_mo mo, fun H M xs os Q hM ho q => ?_⟩
  match os, q, ho with
  | [o], q, ho =>
    obtain ⟨v, ws, rfl, h1, h2⟩ := opns1 ho
    rw [opns0 h2]
    exact h _ _ _ _ _ hM h1 q
theorem sdN2 {K f r} (mo : Mo2 f) (h : ∀ H M x y o p Q, (∀ a, M a → ∃ xs, H a = some (.lst xs)) → OpnR K H M o x → OpnR K H M p y → f o p (PureQ K H M Q) → r [x, y] H Q) : SdN K (on2 f) r := by
  refine ⟨on2_mo mo, fun H M xs os Q hM ho q => ?_⟩
  match os, q, ho with
  | [o, p], q, ho =>
    obtain ⟨v, ws, rfl, h1, h2⟩ := opns1 ho
    obtain ⟨v2, ws2, rfl, h3, h4⟩ := opns1 h2
    rw [opns0 h4]
    exact h _ _ _ _ _ _ _ hM h1 h3 q
local macro_rules | `(tactic| walk_at "mo1") => `(tactic| (intro o Q Q' k h; obtain ⟨d, b⟩ := o; cases d <;> first | exact False.elim h | exact k _ h | exact ⟨h.1, k _ h.2⟩))
def fLen : F1 := fun o Q => match o.1 with
  | .list ds => ds.length ≤ 16777216 → Q (.int ds.length, .full)
  | .tuple ds => ds.length ≤ 16777216 → Q (.int ds.length, .full)
  | .str x => x.length ≤ 16777216 ∧ Q (.int x.length, .full)
  | _ => False
theorem call_lenB : CallR X (.builtin "len") (fun xs H Q => ∃ x n, xs = [x] ∧ LenV X.K x H n ∧ (n ≤ 16777216 → Q (.int n) H)) := by
  rintro pins s σ H xs us Q I rv ⟨x, n, rfl, hl, q⟩
  have hn : n ≤ 16777216 := by
    cases x with
    | str y => exact hl.2 ▸ hl.1
    | byt y => exact hl.2 ▸ hl.1
    | ref p =>
      rcases hl with ⟨xs, s, rfl⟩ | ⟨xs, s, rfl⟩
      · obtain ⟨_, _, _, h⟩ := I.list s; exact h
      · obtain ⟨_, _, _, h⟩ := I.tuple s; exact h
    | _ => exact hl.elim
  exact call_len pins s σ H [x] us Q I rv ⟨x, n, rfl, hl, q hn⟩
theorem sd_len {K} : SdN K (on1 fLen) (fun xs H Q => ∃ x n, xs = [x] ∧ LenV K x H n ∧ (n ≤ 16777216 → Q (.int n) H)) := by
  refine sdN1 (by intro o Q Q' k h; obtain ⟨d, b⟩ := o; cases d <;> first | exact False.elim h | exact fun l => k _ (h l) | exact ⟨h.1, k _ h.2⟩) fun H M x o Q hM ho h => ?_
  obtain ⟨d, b⟩ := o
  cases d <;> first | exact False.elim h | skip
  · exact ⟨x, _, rfl, by rw [opn_str ho rfl]; exact ⟨h.1, rfl⟩, fun _ => q_int h.2⟩
  · obtain ⟨a, xs, rfl, s, r⟩ := opn_lstD ho rfl
    exact ⟨_, _, rfl, .inl ⟨xs, s, rfl⟩, by rw [dpAll_len r]; exact fun l => q_int (h l)⟩
  · obtain ⟨a, xs, rfl, s, r⟩ := opn_tupD ho rfl
    exact ⟨_, _, rfl, .inr ⟨xs, s, rfl⟩, by rw [dpAll_len r]; exact fun l => q_int (h l)⟩
def fAbs : F1 := fun o Q => match o.1 with
  | .int i => Q (.int (if i < 0 then -i else i), .full)
  | _ => False
theorem sd_abs {K} : SdN K (on1 fAbs) (fun xs H Q => ∃ i, xs = [.int i] ∧ Q (.int (if i < 0 then -i else i)) H) := by
  refine sdN1 (by walk_at "mo1") fun H M x o Q hM ho h => ?_
  obtain ⟨d, b⟩ := o
  cases d <;> first | exact False.elim h | exact ⟨_, by rw [opn_int ho rfl], q_int h⟩
def fMax2 : F2 := fun o p Q => match o.1, p.1 with
  | .int i, .int j => Q (.int (if j > i then j else i), .full)
  | _, _ => False
def fMin2 : F2 := fun o p Q => match o.1, p.1 with
  | .int i, .int j => Q (.int (if j < i then j else i), .full)
  | _, _ => False
theorem sd_max2 {K} : SdN K (on2 fMax2) (fun xs H Q => ∃ i j, xs = [.int i, .int j] ∧ Q (.int (if j > i then j else i)) H) := by
  refine sdN2 (by walk_at "mo2") fun H M x y o p Q hM ho hp h => ?_
  obtain ⟨d, b⟩ := o
  obtain ⟨e, c⟩ := p
  cases d <;> cases e <;> first | exact False.elim h | exact ⟨_, _, by rw [opn_int ho rfl, opn_int hp rfl], q_int h⟩
theorem sd_min2 {K} : SdN K (on2 fMin2) (fun xs H Q => ∃ i j, xs = [.int i, .int j] ∧ Q (.int (if j < i then j else i)) H) := by
  refine sdN2 (by walk_at "mo2") fun H M x y o p Q hM ho hp h => ?_
  obtain ⟨d, b⟩ := o
  obtain ⟨e, c⟩ := p
  cases d <;> cases e <;> first | exact False.elim h | exact ⟨_, _, by rw [opn_int ho rfl, opn_int hp rfl], q_int h⟩
/-- what takes a list of ints -/
def fInts (g : List Int → (TVal → Prop) → Prop) : F1 := fun o Q => match o.1 with
  | .list ds => ∃ ns, intsOf ds = some ns ∧ g ns Q
  | _ => False
theorem fInts_mo {g : List Int → (TVal → Prop) → Prop} (h : ∀ ns Q Q', (∀ c, Q c → Q' c) → g ns Q → g ns Q') : Mo1 (fInts g) := by
  intro o Q Q' k q
  obtain ⟨d, b⟩ := o
  cases d <;> first | exact False.elim q | exact q.imp fun _ q => ⟨q.1, h _ _ _ k q.2⟩
theorem ints_rd {K H M o x ds ns} (ho : OpnR K H M o x) (e : o.1 = PyData.list ds) (e2 : intsOf ds = some ns) : ∃ a, x = .ref a ∧ SqL K H a (ns.map V.int) := by
  obtain ⟨a, xs, rfl, s, r⟩ := opn_lstD ho e
  rw [intsOf_eq e2] at r
  rw [dp_ints r] at s
  exact ⟨a, rfl, s⟩
def gSum : List Int → (TVal → Prop) → Prop := fun ns Q => Q (.int ns.sum, .full)
theorem sd_sum {K} : SdN K (on1 (fInts gSum)) (rSum K) := by
  refine sdN1 (fInts_mo fun _ _ _ k => k _) fun H M x o Q hM ho h => ?_
  obtain ⟨d, b⟩ := o
  cases d <;> first | exact False.elim h | skip
  obtain ⟨ns, e, q⟩ := h
  obtain ⟨a, rfl, s⟩ := ints_rd ho rfl e
  exact ⟨a, ns, rfl, s, q_int q⟩
def gMax : List Int → (TVal → Prop) → Prop := fun ns Q => 0 < ns.length ∧ ∀ m, m ∈ ns → (∀ y, y ∈ ns → y ≤ m) → Q (.int m, .full)
def gMin : List Int → (TVal → Prop) → Prop := fun ns Q => 0 < ns.length ∧ ∀ m, m ∈ ns → (∀ y, y ∈ ns → m ≤ y) → Q (.int m, .full)
theorem sd_max1 {K} : SdN K (on1 (fInts gMax)) (rMax K) := by
  refine sdN1 (fInts_mo fun _ _ _ k h => ⟨h.1, fun m a b => k _ (h.2 m a b)⟩) fun H M x o Q hM ho h => ?_
  obtain ⟨d, b⟩ := o
  cases d <;> first | exact False.elim h | skip
  obtain ⟨ns, e, l, q⟩ := h
  obtain ⟨a, rfl, s⟩ := ints_rd ho rfl e
  exact ⟨a, ns, rfl, s, l, fun m a b => q_int (q m a b)⟩
theorem sd_min1 {K} : SdN K (on1 (fInts gMin)) (rMin K) := by
  refine sdN1 (fInts_mo fun _ _ _ k h => ⟨h.1, fun m a b => k _ (h.2 m a b)⟩) fun H M x o Q hM ho h => ?_
  obtain ⟨d, b⟩ := o
  cases d <;> first | exact False.elim h | skip
  obtain ⟨ns, e, l, q⟩ := h
  obtain ⟨a, rfl, s⟩ := ints_rd ho rfl e
  exact ⟨a, ns, rfl, s, l, fun m a b => q_int (q m a b)⟩
def gSorted : List Int → (TVal → Prop) → Prop := fun ns Q => ∀ ns' : List Int, ns'.Perm ns → ns'.Pairwise (· ≤ ·) → Q (.list (ns'.map .int), .full)
theorem noLists_ints : ∀ ns : List Int, noLists (ns.map PyData.int) = true
  | [] => rfl
  | n :: ns => by show (noList (.int n) && noLists (ns.map PyData.int)) = true; rw [noLists_ints ns]; rfl
theorem mkL_ints (ns : List Int) : mkL .full (ns.map PyData.int) = .full := if_pos ⟨rfl, noLists_ints ns⟩
theorem rp_ints {K H M} : ∀ ns : List Int, RpAll K H M (ns.map V.int) (ns.map PyData.int)
  | [] => .nil
  | n :: ns => .cons (.int n) (rp_ints ns)
theorem sd_sorted {K} : SdN K (on1 (fInts gSorted)) (rSortedI K) := by
  refine sdN1 (fInts_mo fun _ _ _ k h => fun m a b => k _ (h m a b)) fun H M x o Q hM ho h => ?_
  obtain ⟨d, b⟩ := o
  cases d <;> first | exact False.elim h | skip
  obtain ⟨ns, e, q⟩ := h
  obtain ⟨a, rfl, s⟩ := ints_rd ho rfl e
  exact ⟨a, ns, rfl, s, fun ns' p h1 h2 hp => q_lst (q ns' h1 h2) (rp_ints ns') (.inl (mkL_ints ns').symm) hp⟩
/-- list(x), tuple(x) of a list or tuple -/
def fList : F1 := fun o Q => match o.1 with
  | .list ds => o.2 = true ∧ Q (.list ds, mkL .full ds)
  | .tuple ds => o.2 = true ∧ Q (.list ds, mkL .full ds)
  | _ => False
def fTuple : F1 := fun o Q => match o.1 with
  | .list ds => o.2 = true ∧ Q (.tuple ds, .fz)
  | .tuple ds => o.2 = true ∧ Q (.tuple ds, .fz)
  | _ => False
theorem sd_list {K} : SdN K (on1 fList) (fun xs H Q => ∃ p ys, xs = [.ref p] ∧ (SqL K H p ys ∨ SqT K H p ys) ∧ ∀ l, H l = none → Q (.ref l) (upd H l (.lst ys))) := by
  refine sdN1 (by walk_at "mo1") fun H M x o Q hM ho h => ?_
  obtain ⟨d, b⟩ := o
  cases d <;> first | exact False.elim h | skip
  · obtain ⟨a, xs, rfl, s, r⟩ := opn_lst ho rfl h.1
    exact ⟨a, xs, rfl, .inl (.inl (.inl s)), fun l hl => q_lst h.2 r (.inl rfl) hl⟩
  · obtain ⟨a, xs, rfl, s, r⟩ := opn_tup ho rfl h.1
    exact ⟨a, xs, rfl, .inr s, fun l hl => q_lst h.2 r (.inl rfl) hl⟩
theorem sd_tuple {K} : SdN K (on1 fTuple) (fun xs H Q => ∃ p ys, xs = [.ref p] ∧ ((SqL K H p ys ∧ ∀ l, H l = none → Q (.ref l) (upd H l (.tup ys))) ∨ (SqT K H p ys ∧ Q (.ref p) H))) := by
  refine sdN1 (by walk_at "mo1") fun H M x o Q hM ho h => ?_
  obtain ⟨d, b⟩ := o
  cases d <;> first | exact False.elim h | skip
  · obtain ⟨a, xs, rfl, s, r⟩ := opn_lst ho rfl h.1
    exact ⟨a, xs, rfl, .inl ⟨.inl (.inl s), fun l hl => q_tup h.2 r hl (new_not hM hl)⟩⟩
  · obtain ⟨a, xs, rfl, s, r⟩ := opn_tup ho rfl h.1
    exact ⟨a, xs, rfl, .inr ⟨s, q_rp h.2 (.tup (tup_r hM s) r)⟩⟩
/-- int(x) of an int or a bool -/
def fInt : F1 := fun o Q => match o.1 with
  | .int i => Q (.int i, .full)
  | .bool b => Q (.int (if b then 1 else 0), .full)
  | _ => False
theorem sd_int {K} : SdN K (on1 fInt) (fun xs H Q => (∃ i, xs = [.int i] ∧ Q (.int i) H) ∨ ∃ k, xs = [.bl k] ∧ Q (.int (if k then 1 else 0)) H) := by
  refine sdN1 (by walk_at "mo1") fun H M x o Q hM ho h => ?_
  obtain ⟨d, b⟩ := o
  cases d <;> first | exact False.elim h | skip
  · exact .inr ⟨_, by rw [opn_bl ho rfl], q_int h⟩
  · exact .inl ⟨_, by rw [opn_int ho rfl], q_int h⟩
def fStr : F1 := fun o Q => match o.1 with
  | .int i => i.natAbs.log2 < 1920 ∧ Q (.str (toString i), .full)
  | _ => False
theorem sd_str {K} : SdN K (on1 fStr) (fun xs H Q => ∃ i, xs = [.int i] ∧ i.natAbs.log2 < 1920 ∧ Q (.str (toString i)) H) := by
  refine sdN1 (by walk_at "mo1") fun H M x o Q hM ho h => ?_
  obtain ⟨d, b⟩ := o
  cases d <;> first | exact False.elim h | skip
  exact ⟨_, by rw [opn_int ho rfl], h.1, q_str h.2⟩
def fBools (g : List Bool → Bool) : F1 := fun o Q => match o.1 with
  | .list ds => ∃ bs, boolsOf ds = some bs ∧ Q (.bool (g bs), .full)
  | _ => False
theorem fBools_mo {g} : Mo1 (fBools g) := by
  intro o Q Q' k q
  obtain ⟨d, b⟩ := o
  cases d <;> first | exact False.elim q | exact q.imp fun _ q => ⟨q.1, k _ q.2⟩
theorem sd_all {K} : SdN K (on1 (fBools fun bs => bs.all id)) (rAll K) := by
  refine sdN1 fBools_mo fun H M x o Q hM ho h => ?_
  obtain ⟨d, b⟩ := o
  cases d <;> first | exact False.elim h | skip
  obtain ⟨bs, e, q⟩ := h
  obtain ⟨a, xs, rfl, s, r⟩ := opn_lstD ho rfl
  rw [boolsOf_eq e] at r
  rw [dp_bools r] at s
  exact ⟨a, bs, rfl, s, q_bl q⟩
theorem sd_any {K} : SdN K (on1 (fBools fun bs => bs.any id)) (rAny K) := by
  refine sdN1 fBools_mo fun H M x o Q hM ho h => ?_
  obtain ⟨d, b⟩ := o
  cases d <;> first | exact False.elim h | skip
  obtain ⟨bs, e, q⟩ := h
  obtain ⟨a, xs, rfl, s, r⟩ := opn_lstD ho rfl
  rw [boolsOf_eq e] at r
  rw [dp_bools r] at s
  exact ⟨a, bs, rfl, s, q_bl q⟩
/-! isinstance(x, T) -/
def tyN : PyData → String
  | .none => "NoneType" | .bool _ => "bool" | .int _ => "int" | .str _ => "str" | .list _ => "list" | .tuple _ => "tuple" | .dict _ => "dict"
theorem tyx {K H d v} (h : Dp K H v d) : TyX K H v (.type (tyN d)) := by
  cases h with
  | non => exact .base .non
  | bl b => exact .base (.bl b)
  | int i => exact .base (.int i)
  | str x => exact .base (.str x)
  | lst s r =>
    rcases s with (s | ⟨o, s⟩) | ⟨o, its, n, h1, h2, _⟩
    · exact .base (.lst s)
    · exact .base (.frz s)
    · exact .kList h1 h2
  | tup s r =>
    rcases s with (s | ⟨o, s⟩) | ⟨o, its, n, h1, h2, _⟩
    · exact .base (.tup s)
    · exact .fTuple s
    · exact .kTuple h1 h2
/-- the classes asked for, by the value's own -/
def isN (T n : String) : Bool := n == T || (n == "bool" && T == "int")
def isT (T : String) (d : PyData) : Bool := isN T (tyN d)
def eIs (T : String) (wa : WO) : WE := e1 (fun o Q => Q (.bool (isT T o.1), .full)) wa
theorem kit_of_tyN {K} {T : String} (hT : T = "int" ∨ T = "bool" ∨ T = "str" ∨ T = "list" ∨ T = "tuple") (d : PyData) : PySem.W.kitOne K (.type (tyN d)) (.type T) = some (isT T d) := by
  rcases hT with rfl | rfl | rfl | rfl | rfl <;> cases d <;> (apply kit_ty; unfold isT; dsimp only [tyN]; decide +kernel)
theorem se_isi {T : String} {x : Str} {p p2 pos : Pos} {e : Expr} {wa : WO} (hT : T = "int" ∨ T = "bool" ∨ T = "str" ∨ T = "list" ∨ T = "tuple") (hg : Gl X "isinstance") (hm : X.mg "isinstance" = none) (hg2 : Gl X x) (hm2 : X.mg x = none) (hv : bootBuiltins x = some (.type T)) (ha : SO X e wa) (hx : x ≠ "__name__" := by decide) (hdx : (x == ("__debug__" : Str)) = false := by decide)
    (hs : starEach [e, .Name x p2] X.env = (false, eval e X.env) :: starEach [.Name x p2] X.env := by rfl) (hs2 : starEach [.Name x p2] X.env = (false, eval (.Name x p2) X.env) :: starEach [] X.env := by rfl) (hpl : (backTo pos (starEach [.Name x p2] X.env)).any (·.1) = false := by rfl) : SE X (.Call (.Name "isinstance" p) [e, .Name x p2] [] pos) (eIs T wa) := by
  have s1 : Sd1 X.K (fun o Q => Q (.bool (isT T o.1), .full)) (fun x H Q => ∃ t b, TyX X.K H x t ∧ PySem.W.kitOne X.K t (.type T) = some b ∧ Q (.bl b) H) :=
    ⟨fun o Q Q' k => k _, fun H M x o Q hM ho h => ⟨_, _, tyx ho.1, kit_of_tyN hT _, q_bl h⟩⟩
  refine ⟨e1_mo s1.mo ha.mo, fun F => pe_weak (pe_callB call_isi hg hm (by decide +kernel) (pa_cons (ha.run F) (pa_cons (pe_bltn hg2 hm2 hv (v := .ty T) rfl hx hdx) pa_nil hs2) hs) (by decide) (by decide) hs hpl) ?_⟩
  intro σ H Q h
  have := rd_e1 s1 ha.mo h
  obtain ⟨ts, A, k, q⟩ := this
  exact ⟨ts, A, k, ha.mo _ _ _ (fun c ts1 q v H1 A1 k1 g1 r1 => by
    obtain ⟨t, b, h1, h2, h3⟩ := q v H1 A1 k1 g1 r1
    exact ⟨_, _, t, _, b, rfl, .ty T, h1, h2, h3⟩) q⟩
end
end TV
end
set_option Elab.async false
set_option linter.all false
set_option maxRecDepth 100000
set_option maxHeartbeats 1000000
/-! Part 8b: max, min, sum of a tuple of numbers. -/
section
namespace TV
open PySem PySem.Spec L2
open PyProof.Rows (IntsAre)
section
variable {prog : Program} {w : World} {A : Around} {E : Value → Shared → Prop} {s : Shared} {l : Addr} {its : List Value} {ns : List Int} {Q : Value → Shared → Prop}
theorem tupW {xs : Array (Int × Tok)} (hl : s.heap.IsTuple l (intItems xs)) :
    ((s.heap.push { cls := .type "tuple_iterator", data := .fields #[.ref l, .int 0 0] }).IsTupleIter s.heap.objs.size l 0 ∧ (s.heap.push { cls := .type "tuple_iterator", data := .fields #[.ref l, .int 0 0] }).IsTuple l (intItems xs)) ∧ (∀ b ∈ [s.heap.objs.size, l], b < (s.heap.push { cls := .type "tuple_iterator", data := .fields #[.ref l, .int 0 0] }).objs.size) ∧ l ≠ s.heap.objs.size := by
  have hlt : l < s.heap.objs.size := by obtain ⟨_, e, _⟩ := hl; exact Heap.lt_size e
  refine ⟨⟨⟨_, Heap.get?_push_size _ rfl, rfl, rfl⟩, hl.push _⟩, fun b hb => ?_, Nat.ne_of_lt hlt⟩
  rw [Heap.size_push]
  simp only [List.mem_cons, List.not_mem_nil, or_false] at hb
  rcases hb with rfl | rfl
  · exact Nat.lt_succ_self _
  · exact Nat.lt_succ_of_lt hlt
theorem tup_kept {o : Obj} {h' : Heap} (hk : ∀ b x, b ∉ [s.heap.objs.size] → (s.heap.push o).get? b = some x → h'.get? b = some x) : ∀ b x, s.heap.get? b = some x → h'.get? b = some x := fun b x e => by
  have hb := Heap.lt_size e
  exact hk b x (by simp only [List.mem_cons, List.not_mem_nil, or_false]; exact Nat.ne_of_lt hb) (Heap.get?_push_of_some _ e)
theorem maxT_raw (hh : A.handled = none) (hl : s.heap.IsTuple l its.toArray) (hi : IntsAre its ns) (hne : 0 < ns.length)
    (h : ∀ h' tk m t', (∀ b o, s.heap.get? b = some o → h'.get? b = some o) → m ∈ ns → (∀ a, a ∈ ns → a ≤ m) → Q (.int m t') { s with heap := h', toks := tk }) : wpAny (model prog w) A (call (.builtin "max") [.ref l]) Q E s := by
  obtain ⟨xs, e⟩ := hi.allInts.items
  have hn : numsOf (intItems xs).toList = ns := by rw [← e]; exact hi.numsOf
  rw [nums_intItems] at hn
  subst hn
  rw [e] at hl
  obtain ⟨st, fp, ne⟩ := tupW hl
  refine call_max_walk (wpAny_pyIter_tuple hl ⟨_, _, _, _, _, _, _, rfl, Walks.tuple (A := A.in1) hh _ l ne (intItems xs), st, fp, by simpa [intItems] using hne, CmpOf.ints_gt (numAt xs) (fun _ _ => intItems_at), fun v h' tk hP hk => ?_⟩)
  obtain ⟨t, rfl⟩ := intItems_at hP
  have hz : (intItems xs).size - 1 = xs.size - 1 := by simp [intItems]
  rw [hz]
  obtain ⟨h1, h2⟩ := argBest_gt (numAt xs) (xs.size - 1)
  refine h h' tk _ t (tup_kept hk) ?_ fun a ha => ?_
  · have hz0 : 0 < xs.size := by simpa using hne
    rw [numAt_eq]
    refine PySem.getD_mem ?_
    rw [List.length_map, Array.length_toList]
    omega
  · obtain ⟨j, hj, rfl⟩ := mem_getD ha
    rw [← numAt_eq]; exact h2 j (by simp at hj; omega)
theorem minT_raw (hh : A.handled = none) (hl : s.heap.IsTuple l its.toArray) (hi : IntsAre its ns) (hne : 0 < ns.length)
    (h : ∀ h' tk m t', (∀ b o, s.heap.get? b = some o → h'.get? b = some o) → m ∈ ns → (∀ a, a ∈ ns → m ≤ a) → Q (.int m t') { s with heap := h', toks := tk }) : wpAny (model prog w) A (call (.builtin "min") [.ref l]) Q E s := by
  obtain ⟨xs, e⟩ := hi.allInts.items
  have hn : numsOf (intItems xs).toList = ns := by rw [← e]; exact hi.numsOf
  rw [nums_intItems] at hn
  subst hn
  rw [e] at hl
  obtain ⟨st, fp, ne⟩ := tupW hl
  refine call_min_walk (wpAny_pyIter_tuple hl ⟨_, _, _, _, _, _, _, rfl, Walks.tuple (A := A.in1) hh _ l ne (intItems xs), st, fp, by simpa [intItems] using hne, CmpOf.ints_lt (numAt xs) (fun _ _ => intItems_at), fun v h' tk hP hk => ?_⟩)
  obtain ⟨t, rfl⟩ := intItems_at hP
  have hz : (intItems xs).size - 1 = xs.size - 1 := by simp [intItems]
  rw [hz]
  obtain ⟨h1, h2⟩ := argBest_lt (numAt xs) (xs.size - 1)
  refine h h' tk _ t (tup_kept hk) ?_ fun a ha => ?_
  · have hz0 : 0 < xs.size := by simpa using hne
    rw [numAt_eq]
    refine PySem.getD_mem ?_
    rw [List.length_map, Array.length_toList]
    omega
  · obtain ⟨j, hj, rfl⟩ := mem_getD ha
    rw [← numAt_eq]; exact h2 j (by simp at hj; omega)
theorem sumT_raw (hh : A.handled = none) (hl : s.heap.IsTuple l its.toArray) (hi : IntsAre its ns)
    (h : ∀ h' tk t', (∀ b o, s.heap.get? b = some o → h'.get? b = some o) → Q (.int ns.sum t') { s with heap := h', toks := tk }) : wpAny (model prog w) A (call (.builtin "sum") [.ref l]) Q E s := by
  obtain ⟨xs, e⟩ := hi.allInts.items
  have hn : numsOf (intItems xs).toList = ns := by rw [← e]; exact hi.numsOf
  rw [nums_intItems] at hn
  subst hn
  rw [e] at hl
  obtain ⟨st, fp, ne⟩ := tupW hl
  refine call_sum_walkG (wpAny_pyIter_tuple hl ⟨_, _, _, _, _, _, numAt xs, rfl, Walks.tuple (A := A.in1) hh _ l ne (intItems xs), st, fp, (fun _ _ => intItems_at), fun h' tk t' hk => ?_⟩)
  have := h h' tk t' (tup_kept hk)
  rw [show (intItems xs).size = xs.size by simp [intItems]]
  rw [preSum_eq, List.take_of_length_le (by simp)]
  exact this
end
section
variable {X : Cx}
def rMaxT (K : PySem.W.Frag) : List V → Hp → VK → Prop := fun vs H Q => ∃ (a : Addr) (ns : List Int), vs = [V.ref a] ∧ SqT K H a (ns.map V.int) ∧ 0 < ns.length ∧ ∀ m, m ∈ ns → (∀ y, y ∈ ns → y ≤ m) → Q (.int m) H
def rMinT (K : PySem.W.Frag) : List V → Hp → VK → Prop := fun vs H Q => ∃ (a : Addr) (ns : List Int), vs = [V.ref a] ∧ SqT K H a (ns.map V.int) ∧ 0 < ns.length ∧ ∀ m, m ∈ ns → (∀ y, y ∈ ns → m ≤ y) → Q (.int m) H
def rSumT (K : PySem.W.Frag) : List V → Hp → VK → Prop := fun vs H Q => ∃ (a : Addr) (ns : List Int), vs = [V.ref a] ∧ SqT K H a (ns.map V.int) ∧ Q (.int ns.sum) H
theorem cr_maxT (hc : X.calm = true) : CallR X (.builtin "max") (rMaxT X.K) := fun pins s σ H vs us Q I r h => by
  obtain ⟨a, ns, rfl, hs, hne, q⟩ := h
  obtain ⟨its, rv, hl, _⟩ := I.tuple hs
  rw [Vals.ref1 r]
  exact maxT_raw (I.ok.hd hc) hl rv.ints hne fun h' tk m t' hk h1 h2 => ⟨.int _, H, I.kept hk, ⟨_, rfl⟩, q m h1 h2⟩
theorem cr_minT (hc : X.calm = true) : CallR X (.builtin "min") (rMinT X.K) := fun pins s σ H vs us Q I r h => by
  obtain ⟨a, ns, rfl, hs, hne, q⟩ := h
  obtain ⟨its, rv, hl, _⟩ := I.tuple hs
  rw [Vals.ref1 r]
  exact minT_raw (I.ok.hd hc) hl rv.ints hne fun h' tk m t' hk h1 h2 => ⟨.int _, H, I.kept hk, ⟨_, rfl⟩, q m h1 h2⟩
theorem cr_sumT (hc : X.calm = true) : CallR X (.builtin "sum") (rSumT X.K) := fun pins s σ H vs us Q I r h => by
  obtain ⟨a, ns, rfl, hs, q⟩ := h
  obtain ⟨its, rv, hl, _⟩ := I.tuple hs
  rw [Vals.ref1 r]
  exact sumT_raw (I.ok.hd hc) hl rv.ints fun h' tk t' hk => ⟨.int _, H, I.kept hk, ⟨_, rfl⟩, q⟩
theorem CallR.or {f : Value} {r r' : List V → Hp → VK → Prop} (h : CallR X f r) (h' : CallR X f r') : CallR X f (fun vs H Q => r vs H Q ∨ r' vs H Q) := fun pins s σ H vs us Q I rx hq => hq.elim (h pins s σ H vs us Q I rx) (h' pins s σ H vs us Q I rx)
end
/-- of a list or a tuple of numbers -/
def fIntsA (g : List Int → (TVal → Prop) → Prop) : F1 := fun o Q => match o.1 with
  | .list ds => ∃ ns, intsOf ds = some ns ∧ g ns Q
  | .tuple ds => ∃ ns, intsOf ds = some ns ∧ g ns Q
  | _ => False
theorem fIntsA_mo {g : List Int → (TVal → Prop) → Prop} (h : ∀ ns Q Q', (∀ c, Q c → Q' c) → g ns Q → g ns Q') : Mo1 (fIntsA g) := by
  intro o Q Q' k q
  obtain ⟨d, b⟩ := o
  cases d <;> first | exact False.elim q | exact q.imp fun _ q => ⟨q.1, h _ _ _ k q.2⟩
theorem ints_rdT {K H M o x ds ns} (ho : OpnR K H M o x) (e : o.1 = PyData.tuple ds) (e2 : intsOf ds = some ns) : ∃ a, x = .ref a ∧ SqT K H a (ns.map V.int) := by
  obtain ⟨a, xs, rfl, s, r⟩ := opn_tupD ho e
  rw [intsOf_eq e2] at r
  rw [dp_ints r] at s
  exact ⟨a, rfl, s⟩
theorem sd_maxA {K} : SdN K (on1 (fIntsA gMax)) (fun vs H Q => rMax K vs H Q ∨ rMaxT K vs H Q) := by
  refine sdN1 (fIntsA_mo fun _ _ _ k h => ⟨h.1, fun m a b => k _ (h.2 m a b)⟩) fun H M x o Q hM ho h => ?_
  obtain ⟨d, b⟩ := o
  cases d <;> first | exact False.elim h | skip
  · obtain ⟨ns, e, l, q⟩ := h
    obtain ⟨a, rfl, s⟩ := ints_rd ho rfl e
    exact .inl ⟨a, ns, rfl, s, l, fun m a b => q_int (q m a b)⟩
  · obtain ⟨ns, e, l, q⟩ := h
    obtain ⟨a, rfl, s⟩ := ints_rdT ho rfl e
    exact .inr ⟨a, ns, rfl, s, l, fun m a b => q_int (q m a b)⟩
theorem sd_minA {K} : SdN K (on1 (fIntsA gMin)) (fun vs H Q => rMin K vs H Q ∨ rMinT K vs H Q) := by
  refine sdN1 (fIntsA_mo fun _ _ _ k h => ⟨h.1, fun m a b => k _ (h.2 m a b)⟩) fun H M x o Q hM ho h => ?_
  obtain ⟨d, b⟩ := o
  cases d <;> first | exact False.elim h | skip
  · obtain ⟨ns, e, l, q⟩ := h
    obtain ⟨a, rfl, s⟩ := ints_rd ho rfl e
    exact .inl ⟨a, ns, rfl, s, l, fun m a b => q_int (q m a b)⟩
  · obtain ⟨ns, e, l, q⟩ := h
    obtain ⟨a, rfl, s⟩ := ints_rdT ho rfl e
    exact .inr ⟨a, ns, rfl, s, l, fun m a b => q_int (q m a b)⟩
theorem sd_sumA {K} : SdN K (on1 (fIntsA gSum)) (fun vs H Q => rSum K vs H Q ∨ rSumT K vs H Q) := by
  refine sdN1 (fIntsA_mo fun _ _ _ k => k _) fun H M x o Q hM ho h => ?_
  obtain ⟨d, b⟩ := o
  cases d <;> first | exact False.elim h | skip
  · obtain ⟨ns, e, q⟩ := h
    obtain ⟨a, rfl, s⟩ := ints_rd ho rfl e
    exact .inl ⟨a, ns, rfl, s, q_int q⟩
  · obtain ⟨ns, e, q⟩ := h
    obtain ⟨a, rfl, s⟩ := ints_rdT ho rfl e
    exact .inr ⟨a, ns, rfl, s, q_int q⟩
theorem cr_maxA {X : Cx} (hc : X.calm = true) : CallR X (.builtin "max") (fun vs H Q => rMax X.K vs H Q ∨ rMaxT X.K vs H Q) := (cr_max hc).or (cr_maxT hc)
theorem cr_minA {X : Cx} (hc : X.calm = true) : CallR X (.builtin "min") (fun vs H Q => rMin X.K vs H Q ∨ rMinT X.K vs H Q) := (cr_min hc).or (cr_minT hc)
theorem cr_sumA {X : Cx} (hc : X.calm = true) : CallR X (.builtin "sum") (fun vs H Q => rSum X.K vs H Q ∨ rSumT X.K vs H Q) := (cr_sum hc).or (cr_sumT hc)
end TV
end
set_option Elab.async false
set_option linter.all false
set_option maxRecDepth 100000
set_option maxHeartbeats 1000000
/-! Part 9: paths, chains, augmented and parallel stores, methods of lists; a law's own end. -/
section
namespace TV
open PySem PySem.Spec L2
open PyProof.Rows (envOfC)
local macro_rules | `(tactic| walk_at "mo2") => `(tactic| (intro o p Q Q' k h; obtain ⟨d, b⟩ := o; obtain ⟨e, c⟩ := p; cases d <;> cases e <;> first | exact False.elim h | exact k _ h | exact ⟨h.1, k _ h.2⟩ | exact ⟨h.1, h.2.1, h.2.2.1, k _ h.2.2.2⟩ | exact ⟨h.1, h.2.1, h.2.2.1, h.2.2.2.1, k _ h.2.2.2.2⟩))

/-! ### a look that changes nothing -/
abbrev WK := TSt → (PyData → Prop) → Prop
def MoK (W : WK) : Prop := ∀ ts Q Q', (∀ c, Q c → Q' c) → W ts Q → W ts Q'
def rdK (K : PySem.W.Frag) (F : Addr → Prop) (W : WK) : TE := fun σ H Q => ∃ ts A, Core K F ts σ H A ∧ W ts fun d => ∀ v H', (∀ b o, H b = some o → H' b = some o) → Dp K H' v d → Q v H'
structure SK (X : Cx) (e : Expr) (W : WK) : Prop where
  mo : MoK W
  run : ∀ F, PE X e (rdK X.K F W)
mutual
theorem dp_same {K : PySem.W.Frag} {H H' : Hp} (s : ∀ b o, H b = some o → H' b = some o) : ∀ (d : PyData) (v : V), Dp K H v d → Dp K H' v d
  | _, _, .non => .non
  | _, _, .bl b => .bl b
  | _, _, .int i => .int i
  | _, _, .str x => .str x
  | _, _, .lst h r => .lst (h.imp (fun h => h.imp (s _ _) fun ⟨o, h⟩ => ⟨o, s _ _ h⟩) id) (dpAll_same s _ _ r)
  | _, _, .tup h r => .tup (h.imp (fun h => h.imp (s _ _) fun ⟨o, h⟩ => ⟨o, s _ _ h⟩) id) (dpAll_same s _ _ r)
theorem dpAll_same {K : PySem.W.Frag} {H H' : Hp} (s : ∀ b o, H b = some o → H' b = some o) : ∀ (ds : List PyData) (vs : List V), DpAll K H vs ds → DpAll K H' vs ds
  | _, _, .nil => .nil
  | _, _, .cons h r => .cons (dp_same s _ _ h) (dpAll_same s _ _ r)
end
section
variable {X : Cx} {e a b : Expr} {pos : Pos} {W W' : WK} {g : F2} {f : F1}
def kV (i : Nat) : WK := fun ts Q => ∃ c, ts[i]? = some (some c) ∧ Q c.1
theorem sk_v (i : Nat) (h : PE X e (tVar i)) : SK X e (kV i) := by
  refine ⟨fun ts Q Q' k ⟨c, e, q⟩ => ⟨c, e, k _ q⟩, fun F => pe_weak h ?_⟩
  rintro σ H Q ⟨ts, A, k, c, e, q⟩
  obtain ⟨v, B, h1, h2, _⟩ := k.peek e
  exact ⟨v, h1, q v H (fun _ _ e => e) h2.dp⟩
def kC (d : PyData) : WK := fun ts Q => Q d
theorem sk_c {d : PyData} {v : V} (h : PE X e (tC v)) (r : ∀ K H, Dp K H v d) : SK X e (kC d) :=
  ⟨fun ts Q Q' k => k _, fun F => pe_weak h fun σ H Q ⟨ts, A, k, q⟩ => q v H (fun _ _ e => e) (r _ _)⟩
theorem sk_int {i j} : SK X (.Constant (.int i) j pos) (kC (.int i)) := sk_c pe_int fun _ _ => .int i
theorem core_same {K F ts σ H A H'} (k : Core K F ts σ H A) (s : ∀ b o, H b = some o → H' b = some o) : Core K F ts σ H' A := (chg_same k s).1
def k2 (g : F2) (W W' : WK) : WK := fun ts Q => W ts fun d => W' ts fun e => g (d, false) (e, false) fun r => Q r.1
def k1 (f : F1) (W : WK) : WK := fun ts Q => W ts fun d => f (d, false) fun r => Q r.1
theorem k2_mo (mg : Mo2 g) (h : MoK W) (h' : MoK W') : MoK (k2 g W W') := fun _ _ _ k => h _ _ _ fun _ => h' _ _ _ fun _ => mg _ _ _ _ fun _ => k _
theorem k1_mo (mf : Mo1 f) (h : MoK W) : MoK (k1 f W) := fun _ _ _ k => h _ _ _ fun _ => mf _ _ _ fun _ => k _
theorem rd_k2 {K F σ H Q r} (s : Sd2 K g r) (ma : MoK W) (mb : MoK W') (h : rdK K F (k2 g W W') σ H Q) : rdK K F W σ H fun x H1 => rdK K F W' σ H1 fun y H2 => r x y H2 Q := by
  obtain ⟨ts, A, k, q⟩ := h
  refine ⟨ts, A, k, ma _ _ _ (fun d q v H1 s1 d1 => ?_) q⟩
  have k' := core_same k s1
  refine ⟨ts, A, k', mb _ _ _ (fun e q w H2 s2 d2 => ?_) q⟩
  have k'' := core_same k' s2
  refine s.run H2 (fun a => F a ∨ a ∈ A) _ _ _ _ _ k''.lists ⟨dp_same s2 _ _ d1, fun h => Bool.noConfusion (show false = true from h)⟩ ⟨d2, fun h => Bool.noConfusion (show false = true from h)⟩ (s.mo _ _ _ _ (fun c q u H3 B p => ?_) q)
  exact q u H3 (fun b o e => p.same b o (s2 b o (s1 b o e))) p.ow.dp
theorem rd_k1 {K F σ H Q r} (s : Sd1 K f r) (ma : MoK W) (h : rdK K F (k1 f W) σ H Q) : rdK K F W σ H fun x H1 => r x H1 Q := by
  obtain ⟨ts, A, k, q⟩ := h
  refine ⟨ts, A, k, ma _ _ _ (fun d q v H1 s1 d1 => ?_) q⟩
  have k' := core_same k s1
  refine s.run H1 (fun a => F a ∨ a ∈ A) _ _ _ k'.lists ⟨d1, fun h => Bool.noConfusion (show false = true from h)⟩ (s.mo _ _ _ (fun c q u H3 B p => ?_) q)
  exact q u H3 (fun b o e => p.same b o (s1 b o e)) p.ow.dp
/-- a[b] within a look: any item -/
def fIxK : F2 := fun o p Q => match o.1, p.1 with
  | .list ds, .int i => ∃ d, atI ds i = some d ∧ Q (d, .fz)
  | .tuple ds, .int i => ∃ d, atI ds i = some d ∧ Q (d, .fz)
  | .str x, .int i => x.length ≤ sizeLine ∧ ∃ c, atI x.cps.toList i = some c ∧ Q (.str ⟨#[c]⟩, .full)
  | _, _ => False
def kIx (W W' : WK) : WK := fun ts Q => W ts fun d => W' ts fun e => fIxK (d, false) (e, false) fun r => Q r.1
theorem fIxK_mo : Mo2 fIxK := by
  intro o p Q Q' k h
  obtain ⟨d, b⟩ := o
  obtain ⟨e, c⟩ := p
  cases d <;> cases e <;> first | exact False.elim h | (obtain ⟨d, h1, h2⟩ := h; exact ⟨d, h1, k _ h2⟩) | (obtain ⟨h0, d, h1, h2⟩ := h; exact ⟨h0, d, h1, k _ h2⟩)
theorem sk_ix (ha : SK X a W) (hb : SK X b W') (hs : PlainIx b) : SK X (.Subscript a b pos) (kIx W W') := by
  refine ⟨fun _ _ _ k => ha.mo _ _ _ fun _ => hb.mo _ _ _ fun _ => fIxK_mo _ _ _ _ fun _ => k _, fun F => pe_weak (pe_ix ix_seq (ha.run F) (hb.run F) hs) ?_⟩
  rintro σ H Q ⟨ts, A, k, q⟩
  refine ⟨ts, A, k, ha.mo _ _ _ (fun d q v H1 s1 d1 => ?_) q⟩
  refine ⟨ts, A, core_same k s1, hb.mo _ _ _ (fun e q w H2 s2 d2 => ?_) q⟩
  have d1 := dp_same s2 _ _ d1
  have ss : ∀ b o, H b = some o → H2 b = some o := fun b o e => s2 b o (s1 b o e)
  cases d <;> cases e <;> first | exact False.elim q | skip
  all_goals cases d2
  · obtain ⟨l, c, hc, q⟩ := q
    cases d1
    exact .inr (.inr ⟨_, _, c, rfl, rfl, l, hc, q _ H2 ss (.str _)⟩)
  · obtain ⟨d, h1, q⟩ := q
    cases d1 with
    | lst s r =>
      obtain ⟨j, g1, g2⟩ := atI_len h1 (dpAll_len r)
      obtain ⟨v, hv, rv⟩ := dpAll_get j r g1
      exact .inl ⟨_, _, _, v, rfl, rfl, s, g2 v hv, q v H2 ss rv⟩
  · obtain ⟨d, h1, q⟩ := q
    cases d1 with
    | tup s r =>
      obtain ⟨j, g1, g2⟩ := atI_len h1 (dpAll_len r)
      obtain ⟨v, hv, rv⟩ := dpAll_get j r g1
      exact .inr (.inl ⟨_, _, _, v, rfl, rfl, s, g2 v hv, q v H2 ss rv⟩)
theorem sk_op {op : Operator} {r : R2} (ho : OpR X (binaryOp op) r) (s : Sd2 X.K g r) (ha : SK X a W) (hb : SK X b W') : SK X (.BinOp a op b pos) (k2 g W W') :=
  ⟨k2_mo s.mo ha.mo hb.mo, fun F => pe_weak (pe_op ho (ha.run F) (hb.run F)) fun _ _ _ => rd_k2 s ha.mo hb.mo⟩
theorem sk_un {op : UnaryOp} {r} (ho : UnR X (unaryOp op) r) (s : Sd1 X.K f r) (ha : SK X a W) : SK X (.UnaryOp op a pos) (k1 f W) :=
  ⟨k1_mo s.mo ha.mo, fun F => pe_weak (pe_un ho (ha.run F)) fun _ _ _ => rd_k1 s ha.mo⟩
/-- len of what a look finds -/
def kLen (W : WK) : WK := fun ts Q => W ts fun d => fLen (d, false) fun r => Q r.1
theorem fLen_mo : Mo1 fLen := by
  intro o Q Q' k h
  obtain ⟨d, b⟩ := o
  cases d <;> first | exact False.elim h | exact fun l => k _ (h l) | exact ⟨h.1, k _ h.2⟩
theorem sk_len {p : Pos} (hg : Gl X "len") (hm : X.mg "len" = none) (ha : SK X a W) (hs : starEach [a] X.env = (false, eval a X.env) :: starEach [] X.env := by rfl) : SK X (.Call (.Name "len" p) [a] [] pos) (kLen W) := by
  refine ⟨fun _ _ _ k => ha.mo _ _ _ fun _ => fLen_mo _ _ _ fun _ => k _, fun F => pe_weak (pe_callB call_lenB hg hm (by decide +kernel) (pa_cons (ha.run F) pa_nil hs) (by decide) (by decide) hs) ?_⟩
  rintro σ H Q ⟨ts, A, k, q⟩
  refine ⟨ts, A, k, ha.mo _ _ _ (fun d q v H1 s1 d1 => ?_) q⟩
  have g : ∀ n : Nat, (∀ v H', (∀ b o, H b = some o → H' b = some o) → Dp X.K H' v (.int n) → Q v H') → Q (.int n) H1 := fun n q => q _ H1 s1 (.int _)
  cases d <;> first | exact False.elim q | skip
  · cases d1
    exact ⟨_, _, rfl, ⟨q.1, rfl⟩, fun _ => g _ q.2⟩
  · cases d1 with
    | lst s r => exact ⟨_, _, rfl, .inl ⟨_, s, rfl⟩, by rw [dpAll_len r]; exact fun l => g _ (q l)⟩
  · cases d1 with
    | tup s r => exact ⟨_, _, rfl, .inr ⟨_, s, rfl⟩, by rw [dpAll_len r]; exact fun l => g _ (q l)⟩
/-- a look as a value: what it finds has no list -/
def eK (W : WK) : WE := fun ts Q => W ts fun d => noList d = true ∧ Q (d, .fz) ts
theorem se_k (h : SK X e W) : SE X e (eK W) := by
  refine ⟨fun _ _ _ k => h.mo _ _ _ fun _ q => ⟨q.1, k _ _ q.2⟩, fun F => pe_weak (h.run F) ?_⟩
  rintro σ H Q ⟨ts, A, k, q⟩
  refine ⟨ts, A, k, h.mo _ _ _ (fun d ⟨n, q⟩ v H1 s1 d1 => ?_) q⟩
  obtain ⟨k1, g1, _⟩ := chg_same k s1
  exact pure_contE k1 g1 q v H1 [] (.of_rp (dp_flat k1.lists _ _ d1 n))
end

/-! ### a < b < c -/
section
variable {X : Cx} {a b c : Expr} {pos : Pos} {wa wb wc : WO} {g g' : F2}
def eCh (g g' : F2) (wa wb wc : WO) : WE := fun ts Q => wa ts fun c1 ts1 => wb ts1 fun c2 ts2 => resP ts2 c1 fun o1 => resP ts2 c2 fun o2 => g o1 o2 fun r => ∃ b, r.1 = .bool b ∧
  if b = true then wc ts2 fun c3 ts3 => resP ts3 c2 fun o2' => resP ts3 c3 fun o3 => g' o2' o3 fun r' => Q r' ts3 else Q (.bool false, .full) ts2
theorem ch_mo (mg : Mo2 g) (mg' : Mo2 g') (ma : Mo wa) (mb : Mo wb) (mc : Mo wc) : Mo (eCh g g' wa wb wc) := fun _ _ _ k => ma _ _ _ fun _ _ => mb _ _ _ fun _ _ => resP_mo fun _ => resP_mo fun _ => mg _ _ _ _ fun r ⟨b, e, q⟩ => ⟨b, e, by
  cases b with
  | true => exact mc _ _ _ (fun _ _ => resP_mo fun _ => resP_mo fun _ => mg' _ _ _ _ fun _ => k _ _) q
  | false => exact k _ _ q⟩
theorem rd_ch {K F σ H Q r r'} (s : Sd2 K g r) (s' : Sd2 K g' r') (ma : Mo wa) (mb : Mo wb) (mc : Mo wc) (h : rdE K F (eCh g g' wa wb wc) σ H Q) : tChain r r' (rdO K F wa) (rdO K F wb) (rdO K F wc) σ H Q := by
  obtain ⟨ts, A, k, q⟩ := h
  refine ⟨ts, A, k, ma _ _ _ (fun c ts1 q v H1 A1 k1 g1 r1 => ?_) q⟩
  refine ⟨ts1, A1, k1, mb _ _ _ (fun c2 ts2 q v2 H2 A2 k2 g2 r2 => ?_) q⟩
  obtain ⟨o, h1, q⟩ := cap_res k2 (r1.keep k1 g2) q
  obtain ⟨p, h2, q⟩ := cap_res k2 r2 q
  refine s.run _ _ _ _ _ _ _ k2.lists h1 h2 (s.mo _ _ _ _ (fun c ⟨b, e, q⟩ u H3 B P => ?_) q)
  have hu : u = .bl b := dp_bl P.ow e
  subst hu
  refine ⟨b, rfl, ?_⟩
  obtain ⟨k3, g3, st3⟩ := chg_same k2 P.same
  cases b with
  | true =>
    refine ⟨ts2, A2, k3, mc _ _ _ (fun c3 ts3 q v3 H4 A4 k4 g4 r4 => ?_) q⟩
    have r2' : CapR K H3 (fun a => F a ∨ a ∈ A2) σ c2 v2 := r2.keep k2 g3
    obtain ⟨o2, h3, q⟩ := cap_res k4 (r2'.keep k3 g4) q
    obtain ⟨o3, h4, q⟩ := cap_res k4 r4 q
    exact s'.run _ _ _ _ _ _ _ k4.lists h3 h4 (s'.mo _ _ _ _ (fun c => pure_contE k4 (((g1.trans g2).trans g3).trans g4)) q)
  | false => exact contE_bl k3 ((g1.trans g2).trans g3) q
theorem se_ch {op op' : CmpOp} {r r' : R2} (ho : OpR X (compareOp op) r) (ho' : OpR X (compareOp op') r') (s : Sd2 X.K g r) (s' : Sd2 X.K g' r') (ha : SO X a wa) (hb : SO X b wb) (hc : SO X c wc) (hm : lastMarks [op, op'] [b, c] = false := by with_unfolding_all rfl) : SE X (.Compare a [op, op'] [b, c] pos) (eCh g g' wa wb wc) :=
  ⟨ch_mo s.mo s'.mo ha.mo hb.mo hc.mo, fun F => pe_weak (pe_chain ho ho' (ha.run F) (hb.run F) (hc.run F) hm) fun _ _ _ => rd_ch s s' ha.mo hb.mo hc.mo⟩
theorem st_ch {op op' : CmpOp} {r r' : R2} (ho : OpR X (compareOp op) r) (ho' : OpR X (compareOp op') r') (s : Sd2 X.K g r) (s' : Sd2 X.K g' r') (ha : SO X a wa) (hb : SO X b wb) (hc : SO X c wc) (hm : lastMarks [op, op'] [b, c] = false := by with_unfolding_all rfl) : ST X (.Compare a [op, op'] [b, c] pos) (tOf (eCh g g' wa wb wc)) := by
  have m := ch_mo s.mo s'.mo ha.mo hb.mo hc.mo
  refine ⟨fun _ _ _ k => m _ _ _ fun _ _ ⟨b, e, q⟩ => ⟨b, e, k _ _ q⟩, fun F => pt_weak (pt_chain ho ho' (ha.run F) (hb.run F) (hc.run F) hm) fun σ H Q ⟨ts, A, k, q⟩ => ?_⟩
  exact rd_ch s s' ha.mo hb.mo hc.mo (Q := fun x H' => ∃ k, x = .bl k ∧ Q k H') ⟨ts, A, k, m _ _ _ (fun _ _ => contT_E) q⟩
end

/-! ### a value's truth -/
def truD : PyData → Option Bool
  | .none => some false
  | .bool b => some b
  | .int i => some (i != 0)
  | .str x => if x.length ≤ sizeLine then some ((x.length : Int) != 0) else none
  | .list ds => some !ds.isEmpty
  | .tuple ds => some !ds.isEmpty
  | _ => none
def tTru (wa : WO) : WT := fun ts Q => wa ts fun c ts1 => resP ts1 c fun o => ∃ b, truD o.1 = some b ∧ Q b ts1
theorem st_tru {X : Cx} {a : Expr} {wa : WO} (ha : SO X a wa) (he : ∀ whole, isTrue a X.env whole = (do let v ← whole; standAt a.pos; holding [v] (truthy v)) := by intro _; rfl) : ST X a (tTru wa) := by
  refine ⟨fun _ _ _ k => ha.mo _ _ _ fun _ _ => resP_mo fun _ ⟨b, e, q⟩ => ⟨b, e, k _ _ q⟩, fun F => pt_weak (pt_truth (ha.run F) he) ?_⟩
  rintro σ H Q ⟨ts, A, k, q⟩
  refine ⟨ts, A, k, ha.mo _ _ _ (fun c ts1 q v H1 A1 k1 g1 r1 => ?_) q⟩
  obtain ⟨o, ho, b, e, q⟩ := cap_res k1 r1 q
  refine ⟨b, ?_, q H1 A1 k1 g1⟩
  obtain ⟨d, bb⟩ := o
  cases d with
  | none => rw [opn_non ho rfl]; cases e; rfl
  | bool x => rw [opn_bl ho rfl]; cases e; rfl
  | int x => rw [opn_int ho rfl]; cases e; rfl
  | str x =>
    rw [opn_str ho rfl]
    have e' : (if x.length ≤ sizeLine then some ((x.length : Int) != 0) else none) = some b := e
    split at e'
    · rename_i h; cases e'; exact ⟨h, rfl⟩
    · cases e'
  | list ds =>
    obtain ⟨a, xs, rfl, s, r⟩ := opn_lstD ho rfl
    cases e
    refine .inl ⟨xs, s, ?_⟩
    cases r <;> rfl
  | tuple ds =>
    obtain ⟨a, xs, rfl, s, r⟩ := opn_tupD ho rfl
    cases e
    refine .inr (.inl ⟨xs, s, ?_⟩)
    cases r <;> rfl
  | dict _ => cases e

/-! ### a, b = x, y -/
def wPar2 (i j : Nat) (Wa : WA) : WS := fun D ts => Wa ts fun cs ts1 => ∃ d e, cs = [.val d, .val e] ∧ i < ts1.length ∧ j < ts1.length ∧ D.nx ((ts1.set i (some (d, .fz))).set j (some (e, .fz)))
def wPar3 (i j l : Nat) (Wa : WA) : WS := fun D ts => Wa ts fun cs ts1 => ∃ d e f, cs = [.val d, .val e, .val f] ∧ i < ts1.length ∧ j < ts1.length ∧ l < ts1.length ∧ D.nx (((ts1.set i (some (d, .fz))).set j (some (e, .fz))).set l (some (f, .fz)))
section
variable {X : Cx} {J : List Nat} {Y : WY}
theorem core_put_fz {K F ts σ H A} {i : Nat} {d v} (k : Core K F ts σ H A) (hi : i < ts.length) (r : Rp K H (fun a => F a ∨ a ∈ A) v d) : ∃ A', Core K F (ts.set i (some (d, .fz))) (σ.set i (some v)) H A' ∧ ∀ a ∈ A', a ∈ A := by
  have e0 : (fun a => F a ∨ a ∈ ([] : List Addr)) = F := by funext a; simp
  have k' : Core K (fun a => F a ∨ a ∈ ([] : List Addr)) ts σ H A := by rw [e0]; exact k
  obtain ⟨A', h1, h2⟩ := k'.put (c := (d, .fz)) List.nodup_nil (fun _ h => absurd h List.not_mem_nil) hi (.fz (Rp.stay (stay_less fun a x => x.imp (fun x => x.resolve_right List.not_mem_nil) id) _ _ r))
  exact ⟨A', h1, fun a ha => (h2 a ha).resolve_right List.not_mem_nil⟩
theorem ss_par2 {i j : Nat} {x y : Str} {a b : Expr} {Wa : WA} {px py pt pos : Pos} {kt k2 pt2} (hc : X.calm = true) (hN : X.N.Nodup) (hi : X.N[i]? = some x) (hj : X.N[j]? = some y) (hij : i ≠ j) (hx : X.env.scope.names.lookup x = some .local) (hy : X.env.scope.names.lookup y = some .local) (ni : i ∉ J) (nj : j ∉ J) (ha : SA X [a, b] Wa)
    (hw : swappedStores [.Tuple [.Name x px, .Name y py] kt pt] (.Tuple [a, b] k2 pt2) X.env = pure (some [x, y])) (hs : swapsWithSole [.Tuple [.Name x px, .Name y py] kt pt] (.Tuple [a, b] k2 pt2) pos.line X.env = pure false := by rfl) : SSY Y X J (.Assign [.Tuple [.Name x px, .Name y py] kt pt] (.Tuple [a, b] k2 pt2) pos) (wPar2 i j Wa) := by
  refine ⟨fun _ _ _ l => ha.mo _ _ _ fun _ _ ⟨d, e, h1, h2, h3, q⟩ => ⟨d, e, h1, h2, h3, l.nx _ q⟩, fun F io hio => ps_weak (ps_par hc hN hi hj hij hx hy (ha.run F) hw hs) ?_⟩
  rintro D σ H ⟨ts, A, k, p, q⟩
  refine ⟨ts, A, k, ha.mo _ _ _ (fun cs ts1 ⟨d, e, hcs, h2, h3, q⟩ vs H1 A1 k1 g1 r1 => ?_) q⟩
  subst hcs
  match vs, r1 with
  | [v, w], r1 =>
    obtain ⟨A2, c2, s2⟩ := core_put_fz k1 h2 r1.1
    obtain ⟨A3, c3, s3⟩ := core_put_fz c2 (by rw [List.length_set]; exact h3) (Rp.stay (stay_less fun a x => x.imp id (s2 a)) _ _ r1.2.1)
    exact ⟨v, w, rfl, q _ H1 A3 c3 (g1.less fun x hx => s2 x (s3 x hx)) (pin_set hio nj (pin_set hio ni p))⟩
theorem ss_par3 {i j l : Nat} {x y z : Str} {a b c : Expr} {Wa : WA} {px py pz pt pos : Pos} {kt k2 pt2} (hc : X.calm = true) (hN : X.N.Nodup) (hi : X.N[i]? = some x) (hj : X.N[j]? = some y) (hl : X.N[l]? = some z) (hij : i ≠ j) (hil : i ≠ l) (hjl : j ≠ l) (hx : X.env.scope.names.lookup x = some .local) (hy : X.env.scope.names.lookup y = some .local) (hz : X.env.scope.names.lookup z = some .local) (ni : i ∉ J) (nj : j ∉ J) (nl : l ∉ J) (ha : SA X [a, b, c] Wa)
    (hw : swappedStores [.Tuple [.Name x px, .Name y py, .Name z pz] kt pt] (.Tuple [a, b, c] k2 pt2) X.env = pure (some [x, y, z])) (hs : swapsWithSole [.Tuple [.Name x px, .Name y py, .Name z pz] kt pt] (.Tuple [a, b, c] k2 pt2) pos.line X.env = pure false := by rfl) : SSY Y X J (.Assign [.Tuple [.Name x px, .Name y py, .Name z pz] kt pt] (.Tuple [a, b, c] k2 pt2) pos) (wPar3 i j l Wa) := by
  refine ⟨fun _ _ _ l => ha.mo _ _ _ fun _ _ ⟨d, e, f, h1, h2, h3, h4, q⟩ => ⟨d, e, f, h1, h2, h3, h4, l.nx _ q⟩, fun F io hio => ps_weak (ps_par3 hc hN hi hj hl hij hil hjl hx hy hz (ha.run F) hw hs) ?_⟩
  rintro D σ H ⟨ts, A, k, p, q⟩
  refine ⟨ts, A, k, ha.mo _ _ _ (fun cs ts1 ⟨d, e, f, hcs, h2, h3, h4, q⟩ vs H1 A1 k1 g1 r1 => ?_) q⟩
  subst hcs
  match vs, r1 with
  | [u, v, w], r1 =>
    obtain ⟨A2, c2, s2⟩ := core_put_fz k1 h2 r1.1
    obtain ⟨A3, c3, s3⟩ := core_put_fz c2 (by rw [List.length_set]; exact h3) (Rp.stay (stay_less fun a x => x.imp id (s2 a)) _ _ r1.2.1)
    obtain ⟨A4, c4, s4⟩ := core_put_fz c3 (by rw [List.length_set, List.length_set]; exact h4) (Rp.stay (stay_less fun a x => x.imp id fun h => s2 a (s3 a h)) _ _ r1.2.2.1)
    exact ⟨u, v, w, rfl, q _ H1 A4 c4 (g1.less fun x hx => s2 x (s3 x (s4 x hx))) (pin_set hio nl (pin_set hio nj (pin_set hio ni p)))⟩
/-! ### x op= e -/
def wAug (i : Nat) (g : F2) (wa : WO) : WS := fun D ts => (∃ c, ts[i]? = some (some c)) ∧ wa ts fun c ts1 => resP ts1 (.slot i) fun o => resP ts1 c fun p => g o p fun r => i < ts1.length ∧ D.nx (ts1.set i (some (r.1, .fz)))
theorem ss_aug {i : Nat} {x : Str} {e : Expr} {op : Operator} {g : F2} {r : R2} {wa : WO} {pos pos' : Pos} (hN : X.N.Nodup) (hi : X.N[i]? = some x) (hx : Loc X.env.scope x) (hn : i ∉ J) (ho : OpR X (inplaceOp op) r) (s : Sd2 X.K g r) (ha : SO X e wa)
    (hf : X.fn x = true ∨ X.env.scope.names.lookup x = some .local := by first | exact .inl rfl | exact .inr rfl | assumption) : SSY Y X J (.AugAssign (.Name x pos') op e pos) (wAug i g wa) := by
  refine ⟨fun _ _ _ l ⟨h0, h⟩ => ⟨h0, ha.mo _ _ _ (fun _ _ => resP_mo fun _ => resP_mo fun _ => s.mo _ _ _ _ fun _ q => ⟨q.1, l.nx _ q.2⟩) h⟩, fun F io hio => ps_weak (ps_aug (ti := r) hN hi hx (ha.run F) (fun pins s σ H x y v u Q I rx ry q => ho pins s σ H x y v u Q I rx ry q) hf) ?_⟩
  rintro D σ H ⟨ts, A, k, p, ⟨c, e⟩, q⟩
  obtain ⟨v, B, hv, _, _⟩ := k.peek e
  refine ⟨v, hv, ts, A, k, ha.mo _ _ _ (fun c1 ts1 q y H1 A1 k1 g1 r1 => ?_) q⟩
  obtain ⟨o, h1, q⟩ := cap_res k1 (c := .slot i) hv q
  obtain ⟨o2, h2, q⟩ := cap_res k1 r1 q
  refine s.run _ _ _ _ _ _ _ k1.lists h1 h2 (s.mo _ _ _ _ (fun c ⟨hl, q⟩ u H3 B P => ?_) q)
  obtain ⟨h3, h4, h5, h6⟩ := pure_core k1 g1 P
  have ru := give_up h3 h4 h6
  obtain ⟨A', k4, sub⟩ := core_put_fz h3.unpend hl ru
  exact q _ _ A' k4 (h5.less fun x hx => List.mem_append_left _ (sub x hx)) (pin_set hio hn p)
end
/-! ### x[k] op= e, ints -/
theorem get_list {X : Cx} : PGet X (rIxL X.K) := by
  rintro pins s σ H o i ov iv Q I ro ri ⟨p, xs, k, v, rfl, rfl, sq, h, q⟩
  cases ro
  obtain ⟨t, rfl⟩ := ri
  obtain ⟨its, r, pl, hz⟩ := I.list sq
  obtain ⟨j, h1, h2, _, h4, h5⟩ := atI_get h
  obtain ⟨w, hw, rw'⟩ := r.get h2
  have hl := r.length
  have hb := line63
  by_cases h0 : 0 ≤ k
  · have ej : k.toNat = j := by
      rw [seqIndex_of h0 h5] at h1
      exact Option.some.inj h1
    refine wpAny_getItem_list pl.isList h0 (by omega) (by rw [ej]; simpa using hw) ⟨v, H, I, rw', q⟩
  · have ej : (k + (its.toArray.size : Int)).toNat = j := by
      rw [seqIndex_neg (by omega) h4] at h1
      rw [List.size_toArray, ← hl]
      exact Option.some.inj h1
    refine wpAny_getItem_list_neg pl.isList (by omega) (by rw [List.size_toArray, ← hl]; omega) (by omega) (by rw [ej]; simpa using hw) ⟨v, H, I, rw', q⟩
def wAugS (i : Nat) (f : Int → Int → Int) (wk wa : WO) : WS := fun D ts => isL ts i ∧ wk ts fun ck ts1 => resP ts1 ck fun o => ∃ k ds m x, o.1 = .int k ∧ ts1[i]? = some (some (.list ds, m)) ∧ atI ds k = some (.int x) ∧ wa ts1 fun ca ts2 => resP ts2 ca fun p => ∃ y es m2 j, p.1 = .int y ∧ ts2[i]? = some (some (.list es, m2)) ∧ m2 ≠ .fz ∧ ixN es.length k = some j ∧
  D.nx (ts2.set i (some (.list (es.set j (.int (f x y))), m2)))
section
variable {X : Cx} {J : List Nat} {Y : WY} {o ix e : Expr} {pos tpos : Pos} {i : Nat} {wk wa : WO} {op : Operator} {f : Int → Int → Int}
theorem ss_augS (ho : PE X o (tVar i)) (hi : SO X ix wk) (he : SO X e wa) (hp : OpR X (inplaceOp op) (rI0 fun i j => V.int (f i j)))
    (ha : ∀ ov iv new, augStore ix ov iv new = (do holding [new, ov, iv] (setItem ov iv new); release [new, ov, iv] []; pure .next) := by intros; rfl) : SSY Y X J (.AugAssign (.Subscript o ix tpos) op e pos) (wAugS i f wk wa) := by
  refine ⟨fun _ _ _ l ⟨hl, q⟩ => ⟨hl, hi.mo _ _ _ (fun _ _ => resP_mo fun _ ⟨k, ds, m, x, e1, e2, e3, q⟩ => ⟨k, ds, m, x, e1, e2, e3, he.mo _ _ _ (fun _ _ => resP_mo fun _ ⟨y, es, m2, j, e4, e5, e6, e7, q⟩ => ⟨y, es, m2, j, e4, e5, e6, e7, l.nx _ q⟩) q⟩) q⟩,
    fun F io hio => ps_weak (L2.ps_augS ho (hi.run F) get_list (he.run F) (fun pins s σ H x y v u Q I rx ry q => hp pins s σ H x y v u Q I rx ry q) set_list ha) ?_⟩
  rintro D σ H ⟨ts, A, k0, p, hl, q⟩
  obtain ⟨x0, hx, _⟩ := isL_ty k0 hl
  refine ⟨x0, hx, ts, A, k0, hi.mo _ _ _ (fun ck ts1 q y H1 A1 k1 g1 r1 => ?_) q⟩
  obtain ⟨oo, h1, k, ds, m, x, e1, e2, e3, q⟩ := cap_res k1 r1 q
  obtain ⟨v, B, hv, w, _⟩ := k1.peek e2
  rw [hx] at hv
  cases hv
  have dw := w.dp
  cases dw with
  | @lst a xs _ sq rd =>
    obtain ⟨j, g2, g3⟩ := atI_len (xs := xs) e3 (dpAll_len rd)
    obtain ⟨vx, hvx, rvx⟩ := dpAll_get j rd g2
    cases rvx
    have hy := opn_int h1 e1
    refine ⟨a, xs, k, _, rfl, hy, sq, g3 _ hvx, ts1, A1, k1, he.mo _ _ _ (fun ca ts2 q z H2 A2 k2 g2' r2 => ?_) q⟩
    obtain ⟨pp, h2, y', es, m2, j', e4, e5, hm, e7, q⟩ := cap_res k2 r2 q
    refine ⟨x, y', rfl, opn_int h2 e4, ?_⟩
    obtain ⟨l', xs', el, hl', len, A', k4, sub, g4⟩ := set_back (j := j') k2 e5 hm hx (v := .int (f x y')) (d := .int (f x y')) (.int _) rfl
    cases el
    refine ⟨_, xs', k, j', rfl, hy, hl', by rw [len]; exact e7, ?_⟩
    exact q _ _ A' k4 ((g1.trans g2').trans g4) p
end
/-! ### further methods of a list that is mine -/
local macro_rules | `(tactic| walk_at "moM") => `(tactic| (intro ds os Q Q' k h))
def mExt1 (ds : List PyData) (o : Opn) (Q : PyData → List PyData → Prop) : Prop := match o.1 with
  | .list es => o.2 = true ∧ ds.length + es.length ≤ sizeLine ∧ Q .none (ds ++ es)
  | _ => False
def mExt : FM := fun ds os Q => match os with
  | [o] => mExt1 ds o Q
  | _ => False
theorem sd_ext {K} : SdM K mExt rExtend := by
  refine ⟨fun ds os Q Q' k h => ?_, fun H M l xs vs ds os Q hl r ho h => ?_⟩
  · match os, h with
    | [o], h =>
      obtain ⟨d, b⟩ := o
      cases d <;> first | exact False.elim (show False from h) | exact ⟨h.1, h.2.1, k _ _ h.2.2⟩
  · match os, h, ho with
    | [o], h, ho =>
      obtain ⟨v, ws, rfl, h1, h2⟩ := opns1 ho
      rw [opns0 h2]
      obtain ⟨d, b⟩ := o
      cases d <;> first | exact False.elim (show False from h) | skip
      obtain ⟨a, ys, rfl, e, r2⟩ := opn_lst h1 rfl h.1
      exact ⟨l, a, xs, ys, rfl, rfl, hl, e, by rw [r.len, r2.len]; exact h.2.1, h.2.2 .non _ (r.append r2) .non⟩
def mPop : FM := fun ds os Q => match os with
  | [] => ∃ d, ds[ds.length - 1]? = some d ∧ Q d ds.dropLast
  | _ => False
theorem RpAll.dropLast {K H M} {vs : List V} {ds : List PyData} (h : RpAll K H M vs ds) : RpAll K H M vs.dropLast ds.dropLast := by
  rw [List.dropLast_eq_take, List.dropLast_eq_take, h.len]
  exact h.take _
theorem sd_pop {K} : SdM K mPop rPop := by
  refine ⟨fun ds os Q Q' k h => ?_, fun H M l xs vs ds os Q hl r ho h => ?_⟩
  · match os, h with
    | [], h => exact h.imp fun _ h => ⟨h.1, k _ _ h.2⟩
  · match os, h, ho with
    | [], h, ho =>
      rw [opns0 ho]
      obtain ⟨d, e, q⟩ := h
      obtain ⟨v, hv, rv⟩ := r.get _ e
      exact ⟨l, xs, v, rfl, rfl, hl, by rw [r.len]; exact hv, q v _ r.dropLast rv⟩
def mPopAt : FM := fun ds os Q => match os with
  | [o] => ∃ i k d, o.1 = .int i ∧ seqIndex? i ds.length = some k ∧ ds[k]? = some d ∧ -(2 ^ 63) ≤ i ∧ i < 2 ^ 63 ∧ Q d (ds.eraseIdx k)
  | _ => False
theorem RpAll.erase {K H M} : ∀ {vs : List V} {ds : List PyData} (i : Nat), RpAll K H M vs ds → RpAll K H M (vs.eraseIdx i) (ds.eraseIdx i)
  | _, _, _, .nil => .nil
  | _, _, 0, .cons _ r => r
  | _, _, i + 1, .cons h r => .cons h (RpAll.erase i r)
theorem sd_popAt {K} : SdM K mPopAt rPopAt := by
  refine ⟨fun ds os Q Q' k h => ?_, fun H M l xs vs ds os Q hl r ho h => ?_⟩
  · match os, h with
    | [o], ⟨i, j, d, h1, h2, h3, h4, h5, q⟩ => exact ⟨i, j, d, h1, h2, h3, h4, h5, k _ _ q⟩
  · match os, h, ho with
    | [o], ⟨i, j, d, h1, h2, h3, h4, h5, q⟩, ho =>
      obtain ⟨v, ws, rfl, g1, g2⟩ := opns1 ho
      rw [opns0 g2, opn_int g1 h1]
      obtain ⟨v, hv, rv⟩ := r.get _ h3
      exact ⟨l, xs, i, j, v, rfl, rfl, hl, h4, h5, by rw [r.len]; exact h2, hv, q v _ (r.erase j) rv⟩
def mRev : FM := fun ds os Q => match os with
  | [] => Q .none ds.reverse
  | _ => False
theorem sd_rev {K} : SdM K mRev rReverse := by
  refine ⟨fun ds os Q Q' k h => ?_, fun H M l xs vs ds os Q hl r ho h => ?_⟩
  · match os, h with
    | [], h => exact k _ _ h
  · match os, h, ho with
    | [], h, ho =>
      rw [opns0 ho]
      exact ⟨l, xs, rfl, rfl, hl, h .non _ r.reverse .non⟩

/-! ### a law: its feed, its end -/
def feedT (ns : List Int) (i c d : Int) : TVal := (.list [.list (ns.map .int), .int i, .int c, .int d], .full)
/-- what _law_feed promises -/
def spFeed (K : PySem.W.Frag) : Sp := fun vs H Q _ => ∃ (a : Addr) (ns : List Int), vs = [.ref a] ∧ SqL K H a (ns.map V.int) ∧ ns.length ≤ 63 ∧ ∀ p q H', p ≠ q → (∀ b o, H b = some o → H' b = some o) → H p = none → H q = none → H' p = some (.lst (ns.map V.int)) → H' q = some (.lst [.ref p, .int 0, .int 0, .int 1]) → Q (.ref q) H'
/-- a law's own promise -/
def spLaw (K : PySem.W.Frag) : Sp := fun vs H Q _ => ∃ (a : Addr) (ns : List Int), vs = [.ref a] ∧ SqL K H a (ns.map V.int) ∧ ns.length ≤ 63 ∧ Only H ∧ ∀ H', Q (.bl true) H'
section
variable {P : Program} {w : World} {K : PySem.W.Frag} {mg : Str → Option Value} {base : Heap}
theorem feed_ok {x qual : Str} {st : Stmt} {f : Addr} {fd : FuncData} {ps : List Str} {k : Nat} (F : Fun K x qual st f fd) (Sc : FnScope ["script"] ["script"] (defScope st))
    (hb : ∀ (cdv : Value) (A : Around) (outer : List Env) (s : Shared) (H : Hp) (E : XK), PSs (cx0 P w K mg base ["script"] qual (defScope st) f cdv A outer s H E) (defBody st) (tRet (tLst (tCons (tCB (fun xs H Q => ∃ p ys, xs = [.ref p] ∧ (SqL K H p ys ∨ SqT K H p ys) ∧ ∀ l, H l = none → Q (.ref l) (upd H l (.lst ys))) (tCons (tVar 0) tNil)) (tCons (tC (.int 0)) (tCons (tC (.int 0)) (tCons (tC (.int 1)) tNil))))))) : FnOk P w K mg base CX0 (k + 1) f fd ["script"] (spFeed K) := by
  refine F.ok Sc (fun vs H Q E ⟨a, ns, h, _⟩ => by subst h; rfl) (fun cdv A outer s H vs Q E hr h => ⟨_, hb cdv A outer s H E, ?_⟩)
  obtain ⟨a, ns, rfl, sq, hl, q⟩ := h
  refine ⟨.ref a, rfl, a, _, rfl, .inl sq, fun p hp => ⟨by show 4 ≤ sizeLine; decide, fun q' hq => ?_⟩⟩
  have ne : p ≠ q' := fun e => by subst e; rw [upd_same] at hq; cases hq
  have hq0 : H q' = none := by rw [upd_ne ne.symm] at hq; exact hq
  refine q p q' _ ne (fun b o e => ?_) hp hq0 ?_ upd_same
  · exact upd_keep hq b o (upd_keep hp b o e)
  · rw [upd_ne ne]; exact upd_same
/-- law(script): feed = _law_feed(script), then the rest -/
theorem law_ok {qual : Str} {st s0 : Stmt} {rest : List Stmt} {f : Addr} {fd : FuncData} {N : List Str} {n : Nat} {k i : Nat} {W : WS} (F : Fun K "law" qual st f fd) (Sc : FnScope N ["script"] (defScope st)) (hn : N.length = n) (hi : i < n) (hi0 : i ≠ 0) (hbody : defBody st = s0 :: rest)
    (h0 : ∀ (cdv : Value) (A : Around) (outer : List Env) (s : Shared) (H : Hp) (E : XK), Room k (A.deeper (envOfC qual (defScope st) s.heap.objs.size f cdv)) → PS (cx0 P w K mg base N qual (defScope st) f cdv A outer s H E) s0 (tAsg (tCall (spFeed K) [] E0 (tCons (tVar 0) tNil)) (gName i)))
    (hr : ∀ (cdv : Value) (A : Around) (outer : List Env) (s : Shared) (H : Hp) (E : XK), Room k (A.deeper (envOfC qual (defScope st) s.heap.objs.size f cdv)) → SSs (cx0 P w K mg base N qual (defScope st) f cdv A outer s H E) [] rest W)
    (hw : ∀ ns : List Int, ns.length ≤ 63 → W ⟨fun _ => False, fun r _ => r.1 = .bool true, fun _ => False, fun _ => False⟩ ((List.replicate n none).set i (some (feedT ns 0 0 1)))) : FnOk P w K mg base CX0 (k + 1) f fd ["script"] (spLaw K) := by
  refine F.ok Sc (fun vs H Q E ⟨a, ns, h, _⟩ => by subst h; rfl) (fun cdv A outer s H vs Q E hroom h => ?_)
  obtain ⟨a, ns, rfl, sq, hl, on, q⟩ := h
  have B := hr cdv A outer s H E hroom
  rw [hbody]
  refine ⟨_, pss_cons (h0 cdv A outer s H E hroom) (B.run (fun _ => False) [] rfl), ?_⟩
  refine ⟨.ref a, (by unfold L2.start; rfl), a, ns, rfl, sq, hl, fun p q' H' ne same hp hq e1 e2 => ?_⟩
  let σ1 : St := (L2.start N [.ref a]).set i (some (.ref q'))
  have lσ : (L2.start N [.ref a]).length = n := by
    unfold L2.start
    simp
    omega
  have rp : ∀ M : Addr → Prop, ∀ ns : List Int, OwAll K H' M (ns.map V.int) (ns.map PyData.int) [] := fun M ns => by
    induction ns with
    | nil => exact .nil
    | cons n ns ih => exact .cons (A := []) (B := []) (.sc rfl (.int n)) ih
  have sc : ∀ M : Addr → Prop, ∀ i : Int, Ow K H' M .full (.int i) (.int i) [] := fun M i => .sc rfl (.int i)
  have ow : ∀ M : Addr → Prop, Ow K H' M .full (.ref q') (feedT ns 0 0 1).1 [q', p] := fun M => by
    refine .fullL (A := [p]) e2 (.cons (A := [p]) (B := []) (.fullL (A := []) e1 (rp M ns)) (.cons (A := []) (B := []) (sc M 0) (.cons (A := []) (B := []) (sc M 0) (.cons (A := []) (B := []) (sc M 1) .nil))))
  have empty : ∀ (σ : St) (m : Nat), σ.length = m → OwS K H' (fun a => False ∨ a ∈ [q', p]) σ (List.replicate m none) [] := fun σ m => by
    induction m generalizing σ with
    | zero => intro h; rw [List.eq_nil_of_length_eq_zero h]; exact .nil
    | succ m ih =>
      intro h
      cases σ with
      | nil => simp at h
      | cons v σ => exact .sn (ih σ (by simpa using h))
  obtain ⟨A2, w2, p2⟩ := (empty _ n lσ).put (c := feedT ns 0 0 1) (v := .ref q') (B := [q', p]) i (by rw [List.getElem?_replicate, if_pos hi]) (ow _)
  rw [List.append_nil] at p2
  have core : Core K (fun _ => False) ((List.replicate n none).set i (some (feedT ns 0 0 1))) σ1 H' [q', p] :=
    ⟨by simp [ne.symm], fun _ _ h => h, fun _ h => h.elim, A2, p2, w2⟩
  refine ⟨_, _, core, fun _ h => absurd h List.not_mem_nil, B.mo _ _ _ ⟨fun _ (h : False) => h.elim, fun r ts' e => ⟨fun v σ' H2 A' B' _ _ _ _ _ wr => ?_, fun _ _ _ _ _ _ => trivial⟩, fun _ (h : False) => h.elim, fun _ (h : False) => h.elim⟩ (hw ns hl)⟩
  rw [dp_bl wr e]
  exact q H2
end
end TV
end
set_option Elab.async false
set_option linter.all false
set_option maxRecDepth 100000
set_option maxHeartbeats 1000000
/-! Part 10: what the printed texts lean on. -/
section
namespace TV
open PySem PySem.Spec L2
open PyProof.Rows (envOfC)

structure CalM (K : PySem.W.Frag) (mg : Str → Option Value) (x : Str) (ps : List Str) (S : FSpec) (f : Addr) (fd : FuncData) : Prop where
  ok : FSok ps.length S
  m : mg x = some (.ref f)
  kp : PySem.W.keepIn K (.ref f) = true
  b : Binds K fd ps []
/-- a def that may be called -/
def Cal (P : Program) (w : World) (K : PySem.W.Frag) (mg : Str → Option Value) (base : Heap) (k : Nat) (x : Str) (ps : List Str) (J : List Nat) (S : FSpec) : Prop :=
  ∃ f fd, FnOk P w K mg base CX0 k f fd ps (spT K ps.length J S) ∧ CalM K mg x ps S f fd
theorem cal_mk {P : Program} {w : World} {K : PySem.W.Frag} {mg : Str → Option Value} {base : Heap} {k : Nat} {x : Str} {ps : List Str} {J : List Nat} {S : FSpec} {f : Addr} {fd : FuncData} (G : FnOk P w K mg base CX0 k f fd ps (spT K ps.length J S)) (ok : FSok ps.length S) (m : mg x = some (.ref f)) (kp : PySem.W.keepIn K (.ref f) = true) (b : Binds K fd ps []) : Cal P w K mg base k x ps J S := ⟨f, fd, G, ok, m, kp, b⟩
theorem hu65 {k : Nat} {A : Around} (h : Room k A) : A.units + 65 < cLine := by have := h.un; omega
/-- a constant of the module -/
def GlobC (K : PySem.W.Frag) (mg : Str → Option Value) (x : Str) (d : PyData) : Prop := ∃ v u, mg x = some u ∧ RelV v u ∧ ∀ H M, Rp K H M v d
section
variable {K : PySem.W.Frag} {mg : Str → Option Value} {x : Str}
theorem globInt {i : Int} {t : Tok} (h : mg x = some (.int i t)) : GlobC K mg x (.int i) := ⟨.int i, _, h, ⟨t, rfl⟩, fun _ _ => .int i⟩
theorem globStr {z : Str} {t : Tok} (h : mg x = some (.str z t)) : GlobC K mg x (.str z) := ⟨.str z, _, h, ⟨t, rfl⟩, fun _ _ => .str z⟩
theorem globTup {a : Addr} {dd : Option Addr} {its : Array Value} {n : Nat} {ss : Array (Option Value)} {vs : List V} {ds : List PyData} (h : mg x = some (.ref a)) (l : K.lookup a = some ⟨.type "tuple", dd, .seq its n, ss⟩) (hz : its.size ≤ sizeLine) (r : Vals vs its.toList) (r2 : ∀ H M, RpAll K H M vs ds) : GlobC K mg x (.tuple ds) :=
  ⟨.ref a, _, h, rfl, fun H M => .tup (.inr ⟨_, its, n, l, rfl, rfl, hz, r⟩) (r2 H M)⟩
end
section
variable {X : Cx} {x : Str} {pos : Pos} {d : PyData}
theorem se_gc (h : GlobC X.K X.mg x d) (hg : Gl X x) (hdb : (x == ("__debug__" : Str)) = false := by decide) : SE X (.Name x pos) (eG d) := by
  obtain ⟨v, u, hm, r, rp⟩ := h
  exact se_g (pe_glob hg hm r hdb) rp
end
/-! ### stores by an operator -/
def fAdd2 : F2 := fun o p Q => match o.1, p.1 with
  | .int i, .int j => Q (.int (i + j), .full)
  | .str x, .str y => x.length + y.length ≤ sizeLine ∧ Q (.str (x ++ y), .full)
  | _, _ => False
def fMul2 : F2 := fun o p Q => match o.1, p.1 with
  | .int i, .int j => CMul i j ∧ Q (.int (i * j), .full)
  | _, _ => False
section
variable {X : Cx}
theorem iop_addT : OpR X (inplaceOp .Add) (fun x y H Q => (rI0 fun i j => V.int (i + j)) x y H Q ∨ ∃ i j, x = .str i ∧ y = .str j ∧ i.length + j.length ≤ sizeLine ∧ Q (.str (i ++ j)) H) := iop_add.or iop_add_str
theorem iop_mulT : OpR X (inplaceOp .Mult) (rI CMul fun i j => V.int (i * j)) := iop_mul
theorem sd_add2 {K} : Sd2 K fAdd2 (fun x y H Q => (rI0 fun i j => V.int (i + j)) x y H Q ∨ ∃ i j, x = .str i ∧ y = .str j ∧ i.length + j.length ≤ sizeLine ∧ Q (.str (i ++ j)) H) := by
  refine ⟨by intro o p Q Q' k h; obtain ⟨d, b⟩ := o; obtain ⟨e, c⟩ := p; cases d <;> cases e <;> first | exact False.elim h | exact k _ h | exact ⟨h.1, k _ h.2⟩, fun H M x y o p Q hM ho hp h => ?_⟩
  obtain ⟨d, b⟩ := o
  obtain ⟨e, c⟩ := p
  cases d <;> cases e <;> first | exact False.elim h | skip
  · exact .inl ⟨_, _, opn_int ho rfl, opn_int hp rfl, q_int h⟩
  · exact .inr ⟨_, _, opn_str ho rfl, opn_str hp rfl, h.1, q_str h.2⟩
theorem sd_mul2 {K} : Sd2 K fMul2 (rI CMul fun i j => V.int (i * j)) := by
  refine ⟨by intro o p Q Q' k h; obtain ⟨d, b⟩ := o; obtain ⟨e, c⟩ := p; cases d <;> cases e <;> first | exact False.elim h | exact ⟨h.1, k _ h.2⟩, fun H M x y o p Q hM ho hp h => ?_⟩
  obtain ⟨d, b⟩ := o
  obtain ⟨e, c⟩ := p
  cases d <;> cases e <;> first | exact False.elim h | exact ⟨_, _, opn_int ho rfl, opn_int hp rfl, h.1, q_int h.2⟩
end
/-! ### a list display -/
theorem se_lst {X : Cx} {es : List Expr} {pos : Pos} {W : WV} (h : SV X es W) : SE X (.List es pos) (eLst W) := by
  refine ⟨fun _ _ _ k => h.mo _ _ _ fun cs t ⟨l, q⟩ => ⟨l, k _ _ q⟩, fun F => pe_weak (pe_lst (h.run F)) ?_⟩
  rintro σ H Q ⟨ts, A, k, q⟩
  refine ⟨ts, A, k, h.mo _ _ _ (fun cs ts1 ⟨l, q⟩ vs H1 A1 B k1 nb fb g1 w => ⟨by rw [w.len]; exact l, fun p hp => ?_⟩) q⟩
  exact lst_out k1 nb fb g1 w hp q
/-! ### xs[::-1] -/
def fRevL : F1 := fun o Q => match o.1 with
  | .list ds => o.2 = true ∧ Q (.list ds.reverse, mkL .full ds.reverse)
  | _ => False
theorem se_revL {X : Cx} {e : Expr} {k : Nat} {p1 p2 p3 pos : Pos} {wa : WO} (h : SO X e wa) : SE X (.Subscript e (.Slice none none (some (.UnaryOp .USub (.Constant (.int 1) k p1) p2)) p3) pos) (e1 fRevL wa) := by
  have s1 : Sd1 X.K fRevL (fun x H Q => ∃ a xs, x = .ref a ∧ SqL X.K H a xs ∧ ∀ p, H p = none → Q (.ref p) (upd H p (.lst xs.reverse))) := by
    refine ⟨fun o Q Q' k h => ?_, fun H M x o Q hM ho h => ?_⟩
    · obtain ⟨d, b⟩ := o
      cases d <;> first | exact False.elim h | exact ⟨h.1, k _ h.2⟩
    · obtain ⟨d, b⟩ := o
      cases d <;> first | exact False.elim h | skip
      obtain ⟨a, xs, rfl, s, r⟩ := opn_lst ho rfl h.1
      exact ⟨a, xs, rfl, .inl (.inl s), fun p hp => q_lst h.2 r.reverse (.inl rfl) hp⟩
  exact ⟨e1_mo s1.mo h.mo, fun F => pe_weak (pe_revL (h.run F)) fun _ _ _ => rd_e1 s1 h.mo⟩
/-! ### a def that calls itself -/
section
variable {P : Program} {w : World} {K : PySem.W.Frag} {mg : Str → Option Value} {base : Heap}
theorem rec_ok {x : Str} {st : Stmt} {f : Addr} {fd : FuncData} {N ps : List Str} {L : Nat} {J : List Nat} {S : Nat → FSpec} {W : FSpec → WS} (F : Fun K x x st f fd) (Sc : FnScope N ps (defScope st)) (hJ : ∀ j ∈ J, j < ps.length) (m : mg x = some (.ref f)) (b : Binds K fd ps [])
    (hb : ∀ (k : Nat) (T : FSpec), L ≤ k → Cal P w K mg base k x ps J T → ∀ (cdv : Value) (A : Around) (outer : List Env) (s : Shared) (H : Hp) (E : XK), Room k (A.deeper (envOfC x (defScope st) s.heap.objs.size f cdv)) → SSs (cx0 P w K mg base N x (defScope st) f cdv A outer s H E) J (defBody st) (W T))
    (h0 : ∀ cs Q, ¬ S 0 cs Q) (ok : ∀ n, FSok ps.length (S n)) (h : ∀ n cs Q, cs.length = ps.length → S (n + 1) cs Q → W (S n) (fnE J Q) (cs.map some ++ List.replicate (N.length - ps.length) none)) : ∀ n, FnOk P w K mg base CX0 (L + n + 1) f fd ps (spT K ps.length J (S n))
  | 0 => ⟨fun vs H Q E h => h.1, fun A outer s H args us vs Q E _ _ _ _ hs => by
      obtain ⟨_, _, _, _, _, h⟩ := hs
      exact absurd h (h0 _ _)⟩
  | n + 1 => fn_ok F Sc hJ (fun cdv A outer s H E hr => hb (L + n + 1) (S n) (by omega) (cal_mk (rec_ok F Sc hJ m b hb h0 ok h n) (ok n) m F.kp b) cdv A outer s H E hr) (h n)
end
end TV
end
set_option Elab.async false
set_option linter.all false
set_option maxRecDepth 100000
set_option maxHeartbeats 1000000
/-! Part 11: rules for reading what is printed. -/
section
namespace TV
open PySem PySem.Spec L2
theorem k_eq {α : Sort _} {K f : α → Prop} {t : α} (h : K = f) (q : f t) : K t := by rw [h]; exact q
theorem k_eq2 {α β : Sort _} {K f : α → β → Prop} {a : α} {t : β} (h : K = f) (q : f a t) : K a t := by rw [h]; exact q
theorem wSeq_k {A B : WS} {D : TEnds} {ts : TSt} (h : ∀ K : TSt → Prop, K = (fun ts' => B D ts') → A { D with nx := K } ts) : wSeq A B D ts := h _ rfl
theorem wIf_k {t : WT} {A B : WS} {D : TEnds} {ts : TSt} (h : ∀ KA KB : TSt → Prop, KA = A D → KB = B D → t ts fun b ts1 => if b = true then KA ts1 else KB ts1) : wIf t A B D ts := h _ _ rfl rfl
theorem while_inv {t : WT} {Wb : WS} {D : TEnds} {ts : TSt} (I : Nat → TSt → Prop) (m0 : Nat) (h0 : I m0 ts)
    (hs : ∀ m ts, I m ts → ∀ KB KD : TSt → Prop, (∀ t1, (∀ K : TSt → Prop, (∀ m' t', m' < m → I m' t' → K t') → Wb { D with nx := K, ct := K, bk := D.nx } t1) → KB t1) → (∀ t1, D.nx t1 → KD t1) → t ts fun b ts1 => if b = true then KB ts1 else KD ts1) : wWhile t Wb D ts :=
  ⟨I, ⟨m0, h0⟩, fun m ts hI => hs m ts hI _ _ (fun t1 h => h _ fun m' t' hm hi => ⟨m', hm, hi⟩) fun t1 h => h⟩
theorem for_core {G : WG} {Wb : WS} {D : TEnds} {ds : List PyData} (I : Nat → TSt → Prop)
    (hs : ∀ i d ts, ds[i]? = some d → I i ts → ∀ K : TSt → Prop, (∀ t, I (i + 1) t → K t) → G (d, .fz) ts fun ts1 => Wb { D with nx := K, ct := K, bk := D.nx } ts1) (hd : ∀ ts, I ds.length ts → D.nx ts) :
    ∀ (n i : Nat) (ts : TSt), i + n = ds.length → I i ts → forL G Wb D (ds.drop i) ts
  | 0, i, ts, e, h => by
    have e' : i = ds.length := by omega
    subst e'
    rw [List.drop_length]
    exact hd ts h
  | n + 1, i, ts, e, h => by
    have hi : i < ds.length := by omega
    rw [List.drop_eq_getElem_cons hi]
    exact hs i _ ts (List.getElem?_eq_getElem hi) h (forL G Wb D (ds.drop (i + 1))) fun t ht => for_core I hs hd n (i + 1) t (by omega) ht
theorem for_inv {Wi : WI} {G : WG} {Wb : WS} {D : TEnds} {ts ts1 : TSt} (ds : List PyData) (I : Nat → TSt → Prop) (hW : ∀ K : List PyData → TSt → Prop, K ds ts1 → Wi ts K) (h0 : I 0 ts1)
    (hs : ∀ i d ts, ds[i]? = some d → I i ts → ∀ K : TSt → Prop, (∀ t, I (i + 1) t → K t) → G (d, .fz) ts fun ts1 => Wb { D with nx := K, ct := K, bk := D.nx } ts1) (hd : ∀ ts, I ds.length ts → D.nx ts) : wFor Wi G Wb D ts := by
  refine hW _ ?_
  have := for_core I hs hd ds.length 0 ts1 (by omega) h0
  rwa [List.drop_zero] at this
theorem comp_core {G : WG} {Tt : WT} {We : WE} {vs : List Nat} {Q : List TVal → TSt → Prop} {ds : List PyData} (I : Nat → List TVal → TSt → Prop)
    (hs : ∀ i d acc ts, ds[i]? = some d → I i acc ts → ∀ (KS : TVal → TSt → Prop) (KN : TSt → Prop), (∀ c t, acc.length < 16777216 → I (i + 1) (acc ++ [c]) (wipeT t vs) → KS c t) → (∀ t, I (i + 1) acc (wipeT t vs) → KN t) → G (d, .fz) ts fun ts1 => Tt ts1 fun b ts2 => if b = true then We ts2 KS else KN ts2)
    (hd : ∀ acc ts, I ds.length acc ts → Q acc ts) : ∀ (n i : Nat) (acc : List TVal) (ts : TSt), i + n = ds.length → I i acc ts → compL G Tt We vs Q (ds.drop i) acc ts
  | 0, i, acc, ts, e, h => by
    have e' : i = ds.length := by omega
    subst e'
    rw [List.drop_length]
    exact hd acc ts h
  | n + 1, i, acc, ts, e, h => by
    have hi : i < ds.length := by omega
    rw [List.drop_eq_getElem_cons hi]
    exact hs i _ acc ts (List.getElem?_eq_getElem hi) h (fun c ts3 => acc.length < sizeLine ∧ compL G Tt We vs Q (ds.drop (i + 1)) (acc ++ [c]) (wipeT ts3 vs)) (fun ts2 => compL G Tt We vs Q (ds.drop (i + 1)) acc (wipeT ts2 vs))
      (fun c t hl ht => ⟨hl, comp_core I hs hd n (i + 1) _ _ (by omega) ht⟩) fun t ht => comp_core I hs hd n (i + 1) _ _ (by omega) ht
/-- [elt for .. if ..] where the state stays: g tells what each item gives -/
theorem comp_pure {Wi : WI} {G : WG} {Tt : WT} {We : WE} {vs : List Nat} {Q : TVal → TSt → Prop} {ts ts1 : TSt} (ds : List PyData) (g : PyData → Option TVal) (hl : ds.length ≤ 16777216) (hW : ∀ K : List PyData → TSt → Prop, K ds ts1 → Wi ts K)
    (h : ∀ d ∈ ds, ∀ (KS : TVal → TSt → Prop) (KN : TSt → Prop), (∀ c t, g d = some c → wipeT t vs = wipeT ts1 vs → KS c t) → (∀ t, g d = none → wipeT t vs = wipeT ts1 vs → KN t) → G (d, .fz) (wipeT ts1 vs) fun ts1 => Tt ts1 fun b ts2 => if b = true then We ts2 KS else KN ts2)
    (q : Q (.list ((ds.filterMap g).map (·.1)), dsp (ds.filterMap g)) (backT ts1 (wipeT ts1 vs) vs)) : eLc Wi G Tt We vs ts Q := by
  refine hW _ ?_
  have := comp_core (G := G) (Tt := Tt) (We := We) (vs := vs) (Q := fun acc ts2 => Q (.list (acc.map (·.1)), dsp acc) (backT ts1 ts2 vs)) (ds := ds) (fun i acc ts => acc = (ds.take i).filterMap g ∧ ts = wipeT ts1 vs)
    (fun i d acc ts e hI KS KN k1 k2 => by
      obtain ⟨rfl, rfl⟩ := hI
      have hi : i < ds.length := (List.getElem?_eq_some_iff.mp e).1
      have et : ds.take (i + 1) = ds.take i ++ [d] := by rw [List.take_add_one, e]; rfl
      have hlen : ((ds.take i).filterMap g).length < 16777216 := by
        have h1 := List.length_filterMap_le g (ds.take i)
        have h2 : (ds.take i).length ≤ i := by rw [List.length_take]; omega
        omega
      refine h d (List.mem_of_getElem? e) KS KN (fun c t hc ht => k1 c t hlen ⟨?_, ht⟩) fun t hc ht => k2 t ⟨?_, ht⟩
      · rw [et, List.filterMap_append, List.filterMap_cons, hc]; rfl
      · rw [et, List.filterMap_append, List.filterMap_cons, hc]; simp)
    (fun acc ts hI => by
      obtain ⟨rfl, rfl⟩ := hI
      rw [List.take_length]
      exact q) ds.length 0 [] (wipeT ts1 vs) (by omega) ⟨by simp, rfl⟩
  rwa [List.drop_zero] at this
/-- .. with a state that may change -/
theorem comp_inv {Wi : WI} {G : WG} {Tt : WT} {We : WE} {vs : List Nat} {Q : TVal → TSt → Prop} {ts ts1 : TSt} (ds : List PyData) (I : Nat → List TVal → TSt → Prop) (hW : ∀ K : List PyData → TSt → Prop, K ds ts1 → Wi ts K) (h0 : I 0 [] (wipeT ts1 vs))
    (hs : ∀ i d acc ts, ds[i]? = some d → I i acc ts → ∀ (KS : TVal → TSt → Prop) (KN : TSt → Prop), (∀ c t, acc.length < 16777216 → I (i + 1) (acc ++ [c]) (wipeT t vs) → KS c t) → (∀ t, I (i + 1) acc (wipeT t vs) → KN t) → G (d, .fz) ts fun ts1 => Tt ts1 fun b ts2 => if b = true then We ts2 KS else KN ts2)
    (hd : ∀ acc ts, I ds.length acc ts → Q (.list (acc.map (·.1)), dsp acc) (backT ts1 ts vs)) : eLc Wi G Tt We vs ts Q := by
  refine hW _ ?_
  have := comp_core (G := G) (Tt := Tt) (We := We) (vs := vs) (Q := fun acc ts2 => Q (.list (acc.map (·.1)), dsp acc) (backT ts1 ts2 vs)) I hs hd ds.length 0 [] (wipeT ts1 vs) (by omega) h0
  rwa [List.drop_zero] at this
theorem wFor_k {Wi : WI} {G : WG} {Wb : WS} {D : TEnds} {ts : TSt} (h : Wi ts fun ds ts1 => forL G Wb D ds ts1) : wFor Wi G Wb D ts := h
theorem eLc_k {Wi : WI} {G : WG} {Tt : WT} {We : WE} {vs : List Nat} {ts : TSt} {Q : TVal → TSt → Prop} (h : Wi ts fun ds ts1 => compL G Tt We vs (fun acc ts2 => Q (.list (acc.map (·.1)), dsp acc) (backT ts1 ts2 vs)) ds [] (wipeT ts1 vs)) : eLc Wi G Tt We vs ts Q := h
theorem forL_inv {G : WG} {Wb : WS} {D : TEnds} {ds : List PyData} {ts1 : TSt} (I : Nat → TSt → Prop) (h0 : I 0 ts1)
    (hs : ∀ i d ts, ds[i]? = some d → I i ts → ∀ K : TSt → Prop, (∀ t, I (i + 1) t → K t) → G (d, .fz) ts fun ts1 => Wb { D with nx := K, ct := K, bk := D.nx } ts1) (hd : ∀ ts, I ds.length ts → D.nx ts) : forL G Wb D ds ts1 := by
  have := for_core I hs hd ds.length 0 ts1 (by omega) h0
  rwa [List.drop_zero] at this
theorem compL_inv {G : WG} {Tt : WT} {We : WE} {vs : List Nat} {Q : List TVal → TSt → Prop} {ds : List PyData} {ts1 : TSt} (I : Nat → List TVal → TSt → Prop) (h0 : I 0 [] ts1)
    (hs : ∀ i d acc ts, ds[i]? = some d → I i acc ts → ∀ (KS : TVal → TSt → Prop) (KN : TSt → Prop), (∀ c t, acc.length < 16777216 → I (i + 1) (acc ++ [c]) (wipeT t vs) → KS c t) → (∀ t, I (i + 1) acc (wipeT t vs) → KN t) → G (d, .fz) ts fun ts1 => Tt ts1 fun b ts2 => if b = true then We ts2 KS else KN ts2)
    (hd : ∀ acc ts, I ds.length acc ts → Q acc ts) : compL G Tt We vs Q ds [] ts1 := by
  have := comp_core (G := G) (Tt := Tt) (We := We) (vs := vs) (Q := Q) I hs hd ds.length 0 [] ts1 (by omega) h0
  rwa [List.drop_zero] at this
theorem compL_pure {G : WG} {Tt : WT} {We : WE} {vs : List Nat} {Q : List TVal → TSt → Prop} {ds : List PyData} {ts1 : TSt} (g : PyData → Option TVal) (hl : ds.length ≤ 16777216)
    (h : ∀ d ∈ ds, ∀ (KS : TVal → TSt → Prop) (KN : TSt → Prop), (∀ c t, g d = some c → wipeT t vs = ts1 → KS c t) → (∀ t, g d = none → wipeT t vs = ts1 → KN t) → G (d, .fz) ts1 fun ts1 => Tt ts1 fun b ts2 => if b = true then We ts2 KS else KN ts2)
    (q : Q (ds.filterMap g) ts1) : compL G Tt We vs Q ds [] ts1 :=
  compL_inv (fun i acc ts => acc = (ds.take i).filterMap g ∧ ts = ts1) ⟨by simp, rfl⟩
    (fun i d acc ts e hI KS KN k1 k2 => by
      obtain ⟨rfl, rfl⟩ := hI
      have hi : i < ds.length := (List.getElem?_eq_some_iff.mp e).1
      have et : ds.take (i + 1) = ds.take i ++ [d] := by rw [List.take_add_one, e]; rfl
      have hlen : ((ds.take i).filterMap g).length < 16777216 := by
        have h1 := List.length_filterMap_le g (ds.take i)
        have h2 : (ds.take i).length ≤ i := by rw [List.length_take]; omega
        omega
      refine h d (List.mem_of_getElem? e) KS KN (fun c t hc ht => k1 c t hlen ⟨?_, ht⟩) fun t hc ht => k2 t ⟨?_, ht⟩
      · rw [et, List.filterMap_append, List.filterMap_cons, hc]; rfl
      · rw [et, List.filterMap_append, List.filterMap_cons, hc]; simp)
    (fun acc ts hI => by
      obtain ⟨rfl, rfl⟩ := hI
      rw [List.take_length]
      exact q)
theorem eCall_k {S : FSpec} {Wa : WA} {ts : TSt} {Q : TVal → TSt → Prop} (h : ∀ K : TVal → TSt → Prop, K = Q → Wa ts fun cs ts1 => argT ts1 cs fun as ts2 => S as fun r _ => if clean r = true then K r ts1 else K r ts2) : eCall S Wa ts Q := h _ rfl
theorem eCallIo_k {S : FSpec} {Wa : WA} {ts : TSt} {Q : TVal → TSt → Prop} (h : ∀ K : TVal → TSt → Prop, K = Q → Wa ts fun cs ts1 => ∃ i cs', cs = .slot i :: cs' ∧ ∃ c, ts1[i]? = some (some c) ∧ argT (ts1.set i none) cs' fun as ts2 => S (c :: as) fun r fins => ∃ c', fins = [c'] ∧
  if clean r = true ∧ clean c' = true then K r (ts1.set i (some c')) else K r (ts2.set i (some c'))) : eCallIo S Wa ts Q := h _ rfl
theorem inOk_i {i : Int} {ds : List PyData} : inOk (.int i) ds := Nat.le_trans (Nat.min_le_right _ _) (Nat.zero_le _)
theorem inOk_s {x : Str} {ds : List PyData} : inOk (.str x) ds := Nat.le_trans (Nat.min_le_right _ _) (Nat.zero_le _)
theorem dsp_full {acc : List TVal} (h : ∀ c ∈ acc, clean c = true) : dsp acc = .full := if_pos (List.all_eq_true.mpr h)
theorem filterMap_ints {α : Type} {ds : List α} {g : α → Option TVal} {f : α → Option Int} (h : ∀ d ∈ ds, g d = (f d).map fun i => (PyData.int i, Own.full)) : (ds.filterMap g).map (·.1) = (ds.filterMap f).map PyData.int ∧ dsp (ds.filterMap g) = .full := by
  have e : ds.filterMap g = (ds.filterMap f).map fun i => (PyData.int i, Own.full) := by
    induction ds with
    | nil => rfl
    | cons d ds ih =>
      rw [List.filterMap_cons, List.filterMap_cons, h d List.mem_cons_self, ih fun x hx => h x (List.mem_cons_of_mem _ hx)]
      cases f d <;> rfl
  rw [e]
  refine ⟨by rw [List.map_map]; rfl, dsp_full fun c hc => ?_⟩
  obtain ⟨i, _, rfl⟩ := List.mem_map.mp hc
  rfl
/-! ### depth, lists of ints -/
theorem depth_int (i : Int) : PyData.depth (.int i) = 0 := rfl
theorem depthAll_ints : ∀ ns : List Int, PyData.depthAll (ns.map PyData.int) = 0
  | [] => rfl
  | n :: ns => by show max (PyData.depth (.int n)) (PyData.depthAll (ns.map PyData.int)) = 0; rw [depthAll_ints ns]; rfl
theorem depOk_l {d e : PyData} (h : d.depth ≤ 64) : depOk d e := Nat.le_trans (Nat.min_le_left _ _) h
theorem depOk_r {d e : PyData} (h : e.depth ≤ 64) : depOk d e := Nat.le_trans (Nat.min_le_right _ _) h
theorem depOk_ii {i j : Int} : depOk (.int i) (.int j) := depOk_l (by show 0 ≤ 64; decide)
theorem atI_map {α β : Type} (f : α → β) (xs : List α) (i : Int) : atI (xs.map f) i = (atI xs i).map f := by
  unfold atI
  rw [List.length_map]
  cases ixN xs.length i with
  | none => rfl
  | some j => show (xs.map f)[j]? = _; rw [List.getElem?_map]; rfl
theorem eqv_int (i j : Int) : PyData.eqv (.int i) (.int j) = (i == j) := by simp [PyData.eqv]
theorem atI_nat' {α : Type} (xs : List α) (k : Nat) : atI xs (k : Int) = xs[k]? := by
  unfold atI ixN
  rw [if_pos (Int.natCast_nonneg k)]
  by_cases h : (k : Int) < (xs.length : Int)
  · rw [if_pos h, Int.toNat_natCast]; rfl
  · rw [if_neg h, List.getElem?_eq_none (by omega)]; rfl
theorem atI_of {α : Type} {xs : List α} {i : Int} (h0 : 0 ≤ i) : atI xs i = xs[i.toNat]? := by
  obtain ⟨k, rfl⟩ := Int.eq_ofNat_of_zero_le h0
  rw [atI_nat', Int.toNat_natCast]
theorem ixN_of {n : Nat} {i : Int} (h0 : 0 ≤ i) (h1 : i < n) : ixN n i = some i.toNat := by
  unfold ixN
  rw [if_pos h0, if_pos h1]
theorem ixN_neg {n : Nat} {i : Int} (h0 : i < 0) (h1 : -(n : Int) ≤ i) : ixN n i = some (i + n).toNat := by
  unfold ixN
  rw [if_neg (by omega), if_pos h1]
theorem atI_neg {α : Type} {xs : List α} {i : Int} (h0 : i < 0) (h1 : -(xs.length : Int) ≤ i) : atI xs i = xs[(i + xs.length).toNat]? := by
  unfold atI
  rw [ixN_neg h0 h1]
  rfl
theorem ixN_m1 (n : Nat) : ixN (n + 1) (-1) = some n := by
  rw [ixN_neg (by decide) (by omega)]
  congr 1
  omega
theorem atI_m1 {α : Type} (xs : List α) : atI xs (-1) = xs.getLast? := by
  rw [List.getLast?_eq_getElem?]
  cases xs with
  | nil => rfl
  | cons x r =>
    rw [atI_neg (by decide) (by rw [List.length_cons]; omega)]
    congr 1
    rw [List.length_cons]
    omega
theorem atI_m2 {α : Type} {xs : List α} (h : 2 ≤ xs.length) : atI xs (-2) = xs[xs.length - 2]? := by
  rw [atI_neg (by decide) (by omega)]
  congr 1
  omega
theorem atI_0 {α : Type} (xs : List α) : atI xs 0 = xs[0]? := atI_nat' xs 0
theorem ixN_0 (n : Nat) : ixN n 0 = if 0 < n then some 0 else none := by
  unfold ixN
  rw [if_pos (by decide)]
  by_cases h : 0 < n
  · rw [if_pos h, if_pos (show (0 : Int) < (n : Int) by omega)]; rfl
  · rw [if_neg h, if_neg (show ¬ (0 : Int) < (n : Int) by omega)]
theorem atI_1 {α : Type} (xs : List α) : atI xs 1 = xs[1]? := atI_nat' xs 1
theorem ixN_1 (n : Nat) : ixN n 1 = if 1 < n then some 1 else none := by
  unfold ixN
  rw [if_pos (by decide)]
  by_cases h : 1 < n
  · rw [if_pos h, if_pos (show (1 : Int) < (n : Int) by omega)]; rfl
  · rw [if_neg h, if_neg (show ¬ (1 : Int) < (n : Int) by omega)]
theorem atI_2 {α : Type} (xs : List α) : atI xs 2 = xs[2]? := atI_nat' xs 2
theorem ixN_2 (n : Nat) : ixN n 2 = if 2 < n then some 2 else none := by
  unfold ixN
  rw [if_pos (by decide)]
  by_cases h : 2 < n
  · rw [if_pos h, if_pos (show (2 : Int) < (n : Int) by omega)]; rfl
  · rw [if_neg h, if_neg (show ¬ (2 : Int) < (n : Int) by omega)]
theorem atI_3 {α : Type} (xs : List α) : atI xs 3 = xs[3]? := atI_nat' xs 3
theorem ixN_3 (n : Nat) : ixN n 3 = if 3 < n then some 3 else none := by
  unfold ixN
  rw [if_pos (by decide)]
  by_cases h : 3 < n
  · rw [if_pos h, if_pos (show (3 : Int) < (n : Int) by omega)]; rfl
  · rw [if_neg h, if_neg (show ¬ (3 : Int) < (n : Int) by omega)]
theorem atI_4 {α : Type} (xs : List α) : atI xs 4 = xs[4]? := atI_nat' xs 4
theorem ixN_4 (n : Nat) : ixN n 4 = if 4 < n then some 4 else none := by
  unfold ixN
  rw [if_pos (by decide)]
  by_cases h : 4 < n
  · rw [if_pos h, if_pos (show (4 : Int) < (n : Int) by omega)]; rfl
  · rw [if_neg h, if_neg (show ¬ (4 : Int) < (n : Int) by omega)]
theorem atI_5 {α : Type} (xs : List α) : atI xs 5 = xs[5]? := atI_nat' xs 5
theorem ixN_5 (n : Nat) : ixN n 5 = if 5 < n then some 5 else none := by
  unfold ixN
  rw [if_pos (by decide)]
  by_cases h : 5 < n
  · rw [if_pos h, if_pos (show (5 : Int) < (n : Int) by omega)]; rfl
  · rw [if_neg h, if_neg (show ¬ (5 : Int) < (n : Int) by omega)]
theorem atI_6 {α : Type} (xs : List α) : atI xs 6 = xs[6]? := atI_nat' xs 6
theorem ixN_6 (n : Nat) : ixN n 6 = if 6 < n then some 6 else none := by
  unfold ixN
  rw [if_pos (by decide)]
  by_cases h : 6 < n
  · rw [if_pos h, if_pos (show (6 : Int) < (n : Int) by omega)]; rfl
  · rw [if_neg h, if_neg (show ¬ (6 : Int) < (n : Int) by omega)]
theorem atI_7 {α : Type} (xs : List α) : atI xs 7 = xs[7]? := atI_nat' xs 7
theorem ixN_7 (n : Nat) : ixN n 7 = if 7 < n then some 7 else none := by
  unfold ixN
  rw [if_pos (by decide)]
  by_cases h : 7 < n
  · rw [if_pos h, if_pos (show (7 : Int) < (n : Int) by omega)]; rfl
  · rw [if_neg h, if_neg (show ¬ (7 : Int) < (n : Int) by omega)]
theorem atI_8 {α : Type} (xs : List α) : atI xs 8 = xs[8]? := atI_nat' xs 8
theorem ixN_8 (n : Nat) : ixN n 8 = if 8 < n then some 8 else none := by
  unfold ixN
  rw [if_pos (by decide)]
  by_cases h : 8 < n
  · rw [if_pos h, if_pos (show (8 : Int) < (n : Int) by omega)]; rfl
  · rw [if_neg h, if_neg (show ¬ (8 : Int) < (n : Int) by omega)]
theorem atI_9 {α : Type} (xs : List α) : atI xs 9 = xs[9]? := atI_nat' xs 9
theorem ixN_9 (n : Nat) : ixN n 9 = if 9 < n then some 9 else none := by
  unfold ixN
  rw [if_pos (by decide)]
  by_cases h : 9 < n
  · rw [if_pos h, if_pos (show (9 : Int) < (n : Int) by omega)]; rfl
  · rw [if_neg h, if_neg (show ¬ (9 : Int) < (n : Int) by omega)]
theorem divOk_of {j : Int} (h0 : 0 < j) (h : j < 10 ^ 60) : divOk j := ⟨h0, by
  have h1 : j.natAbs < 10 ^ 60 := by omega
  exact Nat.lt_of_lt_of_le h1 (Nat.le_trans (show 10 ^ 60 ≤ 2 ^ 200 by decide) (Nat.pow_le_pow_right (by decide) (by decide)))⟩
theorem mulOk_big {i j : Int} (h1 : -(10 ^ 60) < i) (h2 : i < 10 ^ 60) (h3 : -(10 ^ 60) < j) (h4 : j < 10 ^ 60) : mulOk i j :=
  mulOk_of (a := 200) (b := 200) (by have : (10 : Int) ^ 60 < 2 ^ 200 := by decide +kernel
                                     omega) (by have : (10 : Int) ^ 60 < 2 ^ 200 := by decide +kernel
                                                omega) (by decide) (by decide) (by decide)
theorem isT_int_none : isT "int" .none = false := by unfold isT; dsimp only [tyN]; decide +kernel
theorem isT_int_bool (b : Bool) : isT "int" (.bool b) = true := by unfold isT; dsimp only [tyN]; decide +kernel
theorem isT_int_int (i : Int) : isT "int" (.int i) = true := by unfold isT; dsimp only [tyN]; decide +kernel
theorem isT_int_str (x : Str) : isT "int" (.str x) = false := by unfold isT; dsimp only [tyN]; decide +kernel
theorem isT_int_list (xs : List PyData) : isT "int" (.list xs) = false := by unfold isT; dsimp only [tyN]; decide +kernel
theorem isT_int_tuple (xs : List PyData) : isT "int" (.tuple xs) = false := by unfold isT; dsimp only [tyN]; decide +kernel
theorem isT_bool_none : isT "bool" .none = false := by unfold isT; dsimp only [tyN]; decide +kernel
theorem isT_bool_bool (b : Bool) : isT "bool" (.bool b) = true := by unfold isT; dsimp only [tyN]; decide +kernel
theorem isT_bool_int (i : Int) : isT "bool" (.int i) = false := by unfold isT; dsimp only [tyN]; decide +kernel
theorem isT_bool_str (x : Str) : isT "bool" (.str x) = false := by unfold isT; dsimp only [tyN]; decide +kernel
theorem isT_bool_list (xs : List PyData) : isT "bool" (.list xs) = false := by unfold isT; dsimp only [tyN]; decide +kernel
theorem isT_bool_tuple (xs : List PyData) : isT "bool" (.tuple xs) = false := by unfold isT; dsimp only [tyN]; decide +kernel
theorem isT_str_none : isT "str" .none = false := by unfold isT; dsimp only [tyN]; decide +kernel
theorem isT_str_bool (b : Bool) : isT "str" (.bool b) = false := by unfold isT; dsimp only [tyN]; decide +kernel
theorem isT_str_int (i : Int) : isT "str" (.int i) = false := by unfold isT; dsimp only [tyN]; decide +kernel
theorem isT_str_str (x : Str) : isT "str" (.str x) = true := by unfold isT; dsimp only [tyN]; decide +kernel
theorem isT_str_list (xs : List PyData) : isT "str" (.list xs) = false := by unfold isT; dsimp only [tyN]; decide +kernel
theorem isT_str_tuple (xs : List PyData) : isT "str" (.tuple xs) = false := by unfold isT; dsimp only [tyN]; decide +kernel
theorem isT_list_none : isT "list" .none = false := by unfold isT; dsimp only [tyN]; decide +kernel
theorem isT_list_bool (b : Bool) : isT "list" (.bool b) = false := by unfold isT; dsimp only [tyN]; decide +kernel
theorem isT_list_int (i : Int) : isT "list" (.int i) = false := by unfold isT; dsimp only [tyN]; decide +kernel
theorem isT_list_str (x : Str) : isT "list" (.str x) = false := by unfold isT; dsimp only [tyN]; decide +kernel
theorem isT_list_list (xs : List PyData) : isT "list" (.list xs) = true := by unfold isT; dsimp only [tyN]; decide +kernel
theorem isT_list_tuple (xs : List PyData) : isT "list" (.tuple xs) = false := by unfold isT; dsimp only [tyN]; decide +kernel
theorem isT_tuple_none : isT "tuple" .none = false := by unfold isT; dsimp only [tyN]; decide +kernel
theorem isT_tuple_bool (b : Bool) : isT "tuple" (.bool b) = false := by unfold isT; dsimp only [tyN]; decide +kernel
theorem isT_tuple_int (i : Int) : isT "tuple" (.int i) = false := by unfold isT; dsimp only [tyN]; decide +kernel
theorem isT_tuple_str (x : Str) : isT "tuple" (.str x) = false := by unfold isT; dsimp only [tyN]; decide +kernel
theorem isT_tuple_list (xs : List PyData) : isT "tuple" (.list xs) = false := by unfold isT; dsimp only [tyN]; decide +kernel
theorem isT_tuple_tuple (xs : List PyData) : isT "tuple" (.tuple xs) = true := by unfold isT; dsimp only [tyN]; decide +kernel
theorem isT_int_dict (x : List (PyData × PyData)) : isT "int" (.dict x) = false := by unfold isT; dsimp only [tyN]; decide +kernel
theorem isT_bool_dict (x : List (PyData × PyData)) : isT "bool" (.dict x) = false := by unfold isT; dsimp only [tyN]; decide +kernel
theorem isT_str_dict (x : List (PyData × PyData)) : isT "str" (.dict x) = false := by unfold isT; dsimp only [tyN]; decide +kernel
theorem isT_list_dict (x : List (PyData × PyData)) : isT "list" (.dict x) = false := by unfold isT; dsimp only [tyN]; decide +kernel
theorem isT_tuple_dict (x : List (PyData × PyData)) : isT "tuple" (.dict x) = false := by unfold isT; dsimp only [tyN]; decide +kernel
mutual
/-- the same tree: what a law's own comparison tells -/
def sameD : PyData → PyData → Bool
  | t, .none => isNone t
  | .bool a, .bool b => a == b
  | .int a, .int b => a == b
  | .str a, .str b => a == b
  | .list xs, .list ys => sameDs xs ys
  | .tuple xs, .tuple ys => sameDs xs ys
  | _, _ => false
def sameDs : List PyData → List PyData → Bool
  | [], [] => true
  | x :: xs, y :: ys => sameD x y && sameDs xs ys
  | _, _ => false
end
mutual
theorem sameD_refl : ∀ d : PyData, d.plain = true → sameD d d = true
  | .none, _ => rfl
  | .bool b, _ => by simp [sameD]
  | .int b, _ => by simp [sameD]
  | .str b, _ => by simp [sameD]
  | .list xs, h => by simp only [sameD]; exact sameDs_refl xs h
  | .tuple xs, h => by simp only [sameD]; exact sameDs_refl xs h
  | .dict _, h => nomatch h
theorem sameDs_refl : ∀ ds : List PyData, PyData.plainAll ds = true → sameDs ds ds = true
  | [], _ => rfl
  | d :: ds, h => by
    have h' : d.plain = true ∧ PyData.plainAll ds = true := by simpa [PyData.plainAll] using h
    simp only [sameDs, sameD_refl d h'.1, sameDs_refl ds h'.2, Bool.and_self]
end
theorem plainAll_ints : ∀ ns : List Int, PyData.plainAll (ns.map PyData.int) = true
  | [] => rfl
  | n :: ns => by show (PyData.plain (.int n) && PyData.plainAll (ns.map PyData.int)) = true; rw [plainAll_ints ns]; rfl
theorem sameDs_len : ∀ {xs ys : List PyData}, xs.length ≠ ys.length → sameDs xs ys = false
  | [], [], h => absurd rfl h
  | [], _ :: _, _ => rfl
  | _ :: _, [], _ => rfl
  | x :: xs, y :: ys, h => by simp only [sameDs, sameDs_len (fun e => h (by rw [List.length_cons, List.length_cons, e])), Bool.and_false]
theorem sameDs_at : ∀ {xs ys : List PyData} {i : Nat} {x y : PyData}, xs[i]? = some x → ys[i]? = some y → sameD x y = false → sameDs xs ys = false
  | [], _, _, _, _, h, _, _ => by simp at h
  | _ :: _, [], _, _, _, _, h, _ => by simp at h
  | a :: xs, b :: ys, 0, x, y, h1, h2, h3 => by
    simp only [List.getElem?_cons_zero, Option.some.injEq] at h1 h2
    subst h1 h2
    simp only [sameDs, h3, Bool.false_and]
  | a :: xs, b :: ys, i + 1, x, y, h1, h2, h3 => by
    simp only [List.getElem?_cons_succ] at h1 h2
    simp only [sameDs, sameDs_at h1 h2 h3, Bool.and_false]
theorem sameDs_all : ∀ {xs ys : List PyData}, xs.length = ys.length → (∀ (i : Nat) (x y : PyData), xs[i]? = some x → ys[i]? = some y → sameD x y = true) → sameDs xs ys = true
  | [], [], _, _ => rfl
  | [], _ :: _, h, _ => by simp at h
  | _ :: _, [], h, _ => by simp at h
  | a :: xs, b :: ys, h, k => by
    simp only [sameDs, k 0 a b rfl rfl, sameDs_all (by simpa using h) (fun i x y h1 h2 => k (i + 1) x y (by simpa using h1) (by simpa using h2)), Bool.and_self]
theorem depth_mem : ∀ {ds : List PyData} {d : PyData}, d ∈ ds → d.depth ≤ PyData.depthAll ds
  | x :: ds, d, h => by
    simp only [PyData.depthAll]
    rcases List.mem_cons.mp h with rfl | h
    · exact Nat.le_max_left _ _
    · exact Nat.le_trans (depth_mem h) (Nat.le_max_right _ _)
theorem plain_mem : ∀ {ds : List PyData} {d : PyData}, PyData.plainAll ds = true → d ∈ ds → d.plain = true
  | x :: ds, d, hp, h => by
    have h' : x.plain = true ∧ PyData.plainAll ds = true := by simpa [PyData.plainAll] using hp
    rcases List.mem_cons.mp h with rfl | h
    · exact h'.1
    · exact plain_mem h'.2 h
theorem rng_get {lo hi : Int} {i : Nat} {d : PyData} (e : (rngD lo hi)[i]? = some d) : d = .int (lo + i) ∧ lo + i < hi := by
  unfold rngD at e
  rw [List.getElem?_map, Option.map_eq_some_iff] at e
  obtain ⟨j, hj, rfl⟩ := e
  obtain ⟨hl, e2⟩ := List.getElem?_eq_some_iff.mp hj
  rw [List.getElem_range] at e2
  subst e2
  rw [List.length_range] at hl
  exact ⟨rfl, by omega⟩
theorem rng_len {lo hi : Int} : (rngD lo hi).length = (hi - lo).toNat := by unfold rngD; simp
end TV
end
set_option Elab.async false
set_option linter.all false
set_option maxRecDepth 100000
set_option maxHeartbeats 4000000
/-! Part 12: what every law has: drawing numbers, comparing trees. -/
section
namespace TV
open PySem PySem.Spec L2
def w__law_draw : WS :=
  (wSeq (wIf (tAnd (tOf (e2 fEq (oE (e2 fIx (oV 0) (oE (eC (.int 2))))) (oE (eC (.int 0))))) (tOf (e2 fLt (oE (e2 fIx (oV 0) (oE (eC (.int 1))))) (oE (eK (kLen (kIx (kV 0) (kC (.int 0))))))))) (wSeq (wAsg (eN (on1 fAbs) (aCons (oE (eN (on1 fInt) (aCons (oE (eK (kIx (kIx (kV 0) (kC (.int 0))) (kIx (kV 0) (kC (.int 1)))))) aNil))) aNil)) (gN 2))
    (wSeq (wAugS 0 (fun i j => i + j) (oE (eC (.int 1))) (oE (eC (.int 1))))
    (wIf (tOf (e2 (fCmp fun i j => decide (j ≤ i)) (oV 2) (oE (e2 fPow (oE (eC (.int 10))) (oE (eC (.int 18))))))) (wAsg (eV 2) (gSet 0 (oE (eC (.int 2))))) (wAsg (e2 fMod (oE (eN (on1 fInt) (aCons (oE (e2 fAdd (oE (e2 fAdd (oE (e2 fMul (oE (e2 fIx (oV 0) (oE (eC (.int 3))))) (oE (eC (.int 48271))))) (oE (e2 fMul (oV 2) (oE (eC (.int 69621))))))) (oE (e2 fIx (oV 0) (oE (eC (.int 1))))))) aNil))) (oE (eC (.int 2147483647)))) (gSet 0 (oE (eC (.int 3)))))))) wNext)
    (wSeq (wIf (tOf (e2 (fCmp fun i j => decide (j < i)) (oE (e2 fIx (oV 0) (oE (eC (.int 2))))) (oE (eC (.int 0))))) (wSeq (wAsg (e2 fMod (oE (eN (on1 fInt) (aCons (oE (e2 fIx (oV 0) (oE (eC (.int 2))))) aNil))) (oV 1)) (gN 3))
    (wSeq (wAsg (e2 fDiv (oE (e2 fIx (oV 0) (oE (eC (.int 2))))) (oV 1)) (gSet 0 (oE (eC (.int 2)))))
    (wRet (eMv 3)))) wNext)
    (wSeq (wAsg (e2 fMod (oE (eN (on1 fInt) (aCons (oE (e2 fAdd (oE (e2 fMul (oE (e2 fIx (oV 0) (oE (eC (.int 3))))) (oE (eC (.int 16807))))) (oE (eC (.int 12345))))) aNil))) (oE (eC (.int 2147483647)))) (gSet 0 (oE (eC (.int 3)))))
    (wSeq (wAsg (e2 fMod (oE (eN (on1 fInt) (aCons (oE (e2 fAdd (oE (e2 fMul (oE (e2 fIx (oV 0) (oE (eC (.int 3))))) (oE (e2 fIx (oV 0) (oE (eC (.int 3))))))) (oE (e2 fIx (oV 0) (oE (eC (.int 3))))))) aNil))) (oE (eC (.int 2147483629)))) (gN 4))
    (wRet (e2 fMod (oE (e2 fDiv (oV 4) (oE (eC (.int 11))))) (oV 1)))))))
def w__law_same (S__law_same : FSpec) : WS :=
  (wSeq (wIf (tOf (e2 fIs (oV 1) (oE (eC .none)))) (wRet (e2 fIs (oV 0) (oE (eC .none)))) wNext)
    (wSeq (wIf (tOf (eIs "bool" (oV 1))) (wRet (eAnd (eIs "bool" (oV 0)) (e2 fEq (oV 0) (oV 1)))) wNext)
    (wSeq (wIf (tOf (eIs "int" (oV 1))) (wRet (eAnd (eIs "int" (oV 0)) (eAnd (eNot (eIs "bool" (oV 0))) (e2 fEq (oV 0) (oV 1))))) wNext)
    (wSeq (wIf (tOf (eIs "str" (oV 1))) (wRet (eAnd (eIs "str" (oV 0)) (e2 fEq (oV 0) (oV 1)))) wNext)
    (wSeq (wIf (tAnd (tOf (eIs "list" (oV 1))) (tNot (tOf (eIs "list" (oV 0))))) (wRet (eC (.bool false))) wNext)
    (wSeq (wIf (tAnd (tOf (eIs "tuple" (oV 1))) (tNot (tOf (eIs "tuple" (oV 0))))) (wRet (eC (.bool false))) wNext)
    (wSeq (wIf (tOf (e2 fNe (oE (eN (on1 fLen) (aCons (oV 0) aNil))) (oE (eN (on1 fLen) (aCons (oV 1) aNil))))) (wRet (eC (.bool false))) wNext)
    (wSeq (wFor (iR1 (oE (eN (on1 fLen) (aCons (oV 1) aNil)))) (gN 2) (wIf (tNot (tOf (eCall S__law_same (aCons (oE (e2 fIx (oV 0) (oV 2))) (aCons (oE (e2 fIx (oV 1) (oV 2))) aNil))))) (wRet (eC (.bool false))) wNext))
    (wRet (eC (.bool true)))))))))))
local macro_rules | `(tactic| walk_at "sx") => `(tactic| simp only [wNever, wBreak, wCont, wExpr, wRet, wRetN, wNext, wAsg, gN, gsNil, gsCons, gT, gSet, wPar2, wPar3, wAug, wAugS, oV, oE, eC, eG, eV, eMv, e1, e2, eN, aNil, aCons, eAnd, eOr, eNot, tOf, tAnd, tOr, tNot, eIf, tTru, eCh, eK, kV, kC, kIx, k1, k2, kLen, fIxK, eTup, eLst, vNil, vCons, eIs, resP, resPs, on1, on2, fAdd, fSub, fMul, fDiv, fMod, fPow, fNeg, fEq, fNe, fCmp, fLt, fIs, fIsNot, fIsC, isBl, zip2, fIx, fLen, fAbs, fInt, fMin2, fMax2, fTuple, fList, fInts, gSorted, gSum, gMax, gMin, fStr, fAdd2, fMul2, fIn, intsOf, intsOf_map, Option.map_some, mkL_ints, isL, finT, fnE, List.map_cons, List.map_nil, List.cons_append, List.nil_append, List.replicate, List.getElem?_cons_zero, List.getElem?_cons_succ, List.getElem?_nil, List.set_cons_zero, List.set_cons_succ, List.length_cons, List.length_nil, List.length_set, Option.some.injEq, Prod.mk.injEq, PyData.int.injEq, PyData.list.injEq, PyData.bool.injEq, PyData.tuple.injEq, exists_eq_left', exists_eq_left, exists_eq', exists_and_left, exists_and_right, and_assoc, exists_const, and_true, true_and, ne_eq, not_false_eq_true, Nat.zero_add, Nat.reduceAdd, Nat.reduceLT, Int.cast_ofNat_Int, Int.reduceLT, Int.reduceLE, ↓reduceIte, reduceCtorEq, Bool.true_eq_false, Bool.false_eq_true, decide_eq_true_eq, noList, flatK, noLists, Bool.and_true, Bool.true_and, Bool.and_false, Bool.false_and, Bool.or_true, Bool.true_or, Bool.or_false, Bool.false_or, decide_false, decide_true, Bool.not_true, Bool.not_false, eqv_int, Bool.not_eq_true', beq_eq_false_iff_ne, beq_iff_eq, atI_0, ixN_0, atI_1, ixN_1, atI_2, ixN_2, atI_3, ixN_3, atI_4, ixN_4, atI_5, ixN_5, atI_6, ixN_6, atI_7, ixN_7, atI_8, ixN_8, atI_9, ixN_9, atI_m1, Int.reduceNeg, not_true_eq_false, false_or, or_true, true_or, Int.reduceToNat, depOk_ii, List.length_map, argT, isT_int_none, isT_int_bool, isT_int_int, isT_int_str, isT_int_list, isT_int_tuple, isT_bool_none, isT_bool_bool, isT_bool_int, isT_bool_str, isT_bool_list, isT_bool_tuple, isT_str_none, isT_str_bool, isT_str_int, isT_str_str, isT_str_list, isT_str_tuple, isT_list_none, isT_list_bool, isT_list_int, isT_list_str, isT_list_list, isT_list_tuple, isT_tuple_none, isT_tuple_bool, isT_tuple_int, isT_tuple_str, isT_tuple_list, isT_tuple_tuple, isT_int_dict, isT_bool_dict, isT_str_dict, isT_list_dict, isT_tuple_dict, isNone, clean, List.cons.injEq, Cap.val.injEq, Cap.slot.injEq, Int.reduceEq, Int.reduceNe, Int.reduceAdd, Int.reduceSub, Int.reduceMul, sizeLine, compL, wipeT, backT, shO, dsp, cleans, mkL, noLists, List.all_cons, List.all_nil, forL, List.append_eq, iZipL, iSeq, iEnumL, iRevL, seqOf, iR1, iR2, iR3])
local macro_rules | `(tactic| walk_at "s1") => `(tactic| first
  | (with_reducible refine wSeq_k ?_; intro _ _)
  | (with_reducible refine wIf_k ?_; intro _ _ _ _; try walk_at "sx")
  | (with_reducible refine eCall_k ?_; intro _ _)
  | (with_reducible refine eCallIo_k ?_; intro _ _)
  | (refine k_eq (by assumption) ?_; try dsimp only)
  | (refine k_eq2 (by assumption) ?_; try dsimp only)
  | walk_at "sx")
local macro_rules | `(tactic| walk_at "go") => `(tactic| repeat walk_at "s1")
local macro_rules | `(tactic| walk_at "ok") => `(tactic| first | omega | exact ⟨by omega, by omega⟩ | exact divOk_of (by omega) (by omega) | exact mulOk_l (by omega) (by omega) | exact mulOk_r (by omega) (by omega) | exact mulOk_big (by omega) (by omega) (by omega) (by omega))
local macro_rules | `(tactic| walk_at "run") => `(tactic| repeat (first | walk_at "s1" | with_reducible refine wFor_k ?_ | with_reducible refine eLc_k ?_ | (((with_reducible refine And.intro ?_ ?_); · walk_at "ok"); try dsimp only)))
local macro_rules | `(tactic| walk_at "rif") => `(tactic| repeat (first | walk_at "s1" | with_reducible refine wFor_k ?_ | with_reducible refine eLc_k ?_ | (((with_reducible refine And.intro ?_ ?_); · walk_at "ok"); try dsimp only) | rw [if_neg (by omega)] | rw [if_pos (by omega)]))
def FeedOk (ns : List Int) (i c d : Int) : Prop := 0 ≤ i ∧ 0 ≤ c ∧ 0 ≤ d ∧ d < 2147483647
/-- the feed as it goes from draw to draw -/
def Feed (f : TVal) : Prop := ∃ ns i c d, f = feedT ns i c d ∧ FeedOk ns i c d
def S__law_draw : FSpec := fun cs Q => ∃ f many m, cs = [f, (.int many, m)] ∧ Feed f ∧ 0 < many ∧ many ≤ 10 ^ 30 ∧ ∀ r f', Feed (f', .full) → 0 ≤ r → r < many → Q (.int r, .full) [(f', .full)]
theorem ok__law_draw : FSok 2 S__law_draw := ⟨fun cs Q Q' k ⟨f, many, m, h1, h2, h3, h4, q⟩ => ⟨f, many, m, h1, h2, h3, h4, fun r f' a b c => k _ _ (q r f' a b c)⟩, fun cs Q ⟨f, many, m, h1, _⟩ => by rw [h1]; rfl⟩
theorem draw_k {f : TVal} {many : Int} {m : Own} {Q : TVal → List TVal → Prop} (hf : Feed f) (h1 : 0 < many) (h2 : many ≤ 10 ^ 30) (q : ∀ r f', Feed (f', .full) → 0 ≤ r → r < many → Q (.int r, .full) [(f', .full)]) : S__law_draw [f, (.int many, m)] Q := ⟨f, many, m, rfl, hf, h1, h2, q⟩
theorem wp__law_draw : ∀ cs Q, cs.length = 2 → S__law_draw cs Q → w__law_draw (fnE [0] Q) (cs.map some ++ List.replicate 3 none) := by
  rintro cs Q - ⟨f, many, m, rfl, ⟨ns, i, c, d, rfl, h1, h2, h3, h4⟩, hm, hm2, q⟩
  have hfin : ∀ (i' c' d' : Int), FeedOk ns i' c' d' → ∀ (r : Int) (a b : Option TVal), 0 ≤ r → r < many → Q (.int r, .full) [feedT ns i' c' d'] := fun i' c' d' h r a b h0 h1 => q r _ ⟨ns, i', c', d', rfl, h⟩ h0 h1
  unfold w__law_draw feedT
  refine wSeq_k ?_
  intro K hK
  -- behind the first if: some i, c, d again
  have tail : ∀ (K : TSt → Prop) (i c d : Int) (o : Option TVal), 0 ≤ i → 0 ≤ c → 0 ≤ d → d < 2147483647 → K = (fun ts' => wSeq (wIf (tOf (e2 (fCmp fun i j => decide (j < i)) (oE (e2 fIx (oV 0) (oE (eC (.int 2))))) (oE (eC (.int 0))))) (wSeq (wAsg (e2 fMod (oE (eN (on1 fInt) (aCons (oE (e2 fIx (oV 0) (oE (eC (.int 2))))) aNil))) (oV 1)) (gN 3))
    (wSeq (wAsg (e2 fDiv (oE (e2 fIx (oV 0) (oE (eC (.int 2))))) (oV 1)) (gSet 0 (oE (eC (.int 2)))))
    (wRet (eMv 3)))) wNext)
    (wSeq (wAsg (e2 fMod (oE (eN (on1 fInt) (aCons (oE (e2 fAdd (oE (e2 fMul (oE (e2 fIx (oV 0) (oE (eC (.int 3))))) (oE (eC (.int 16807))))) (oE (eC (.int 12345))))) aNil))) (oE (eC (.int 2147483647)))) (gSet 0 (oE (eC (.int 3)))))
    (wSeq (wAsg (e2 fMod (oE (eN (on1 fInt) (aCons (oE (e2 fAdd (oE (e2 fMul (oE (e2 fIx (oV 0) (oE (eC (.int 3))))) (oE (e2 fIx (oV 0) (oE (eC (.int 3))))))) (oE (e2 fIx (oV 0) (oE (eC (.int 3))))))) aNil))) (oE (eC (.int 2147483629)))) (gN 4))
    (wRet (e2 fMod (oE (e2 fDiv (oV 4) (oE (eC (.int 11))))) (oV 1))))) (fnE [0] Q) ts') → K [some (.list [.list (ns.map .int), .int i, .int c, .int d], .full), some (.int many, m), o, none, none] := by
    intro K i c d o h1 h2 h3 h4 hK
    refine k_eq hK ?_
    try dsimp only
    walk_at "go"
    split
    · walk_at "go"
      refine ⟨hm, ?_⟩
      walk_at "go"
      refine ⟨divOk_of hm (by omega), ?_⟩
      walk_at "go"
      exact hfin i _ d ⟨h1, Int.ediv_nonneg h2 (by omega), h3, h4⟩ _ none none (Int.emod_nonneg _ (by omega)) (Int.emod_lt_of_pos _ hm)
    · walk_at "go"
      have n1 := Int.emod_nonneg (d * 16807 + 12345) (show (2147483647 : Int) ≠ 0 by decide)
      have n2 := Int.emod_lt_of_pos (d * 16807 + 12345) (show (0 : Int) < 2147483647 by decide)
      refine ⟨mulOk_l (by omega) (by omega), ?_⟩
      walk_at "go"
      generalize hx : (d * 16807 + 12345) % 2147483647 = x at *
      refine ⟨mulOk_l (by omega) (by omega), ?_⟩
      walk_at "go"
      refine ⟨divOk_of (by decide) (by decide), hm, ?_⟩
      exact hfin i c x ⟨h1, h2, n1, n2⟩ _ none none (Int.emod_nonneg _ (by omega)) (Int.emod_lt_of_pos _ hm)
  have kk := fun i c d o a b e g => tail K i c d o a b e g hK
  clear hK tail
  walk_at "go"
  split
  · rename_i hc
    intro hlen
    split
    · rename_i hi
      have hi' : i.toNat < ns.length := by omega
      have e0 : atI (ns.map PyData.int) i = some (.int ns[i.toNat]) := by
        rw [atI_of h1, List.getElem?_map, List.getElem?_eq_getElem hi']
        rfl
      generalize ns[i.toNat] = z at e0
      walk_at "go"
      refine ⟨_, e0, rfl, ?_⟩
      dsimp only
      have hz : 0 ≤ (if z < 0 then -z else z) := by split <;> omega
      generalize (if z < 0 then -z else z) = y at hz
      walk_at "go"
      refine ⟨⟨by decide, by decide, by decide⟩, ?_⟩
      split
      · walk_at "go"
        exact kk _ _ _ _ (by omega) hz h3 h4
      · rename_i hy
        walk_at "go"
        refine ⟨mulOk_l (by omega) (by omega), mulOk_r (by omega) (by omega), ?_⟩
        exact kk _ _ _ _ (by omega) h2 (Int.emod_nonneg _ (by decide)) (Int.emod_lt_of_pos _ (by decide))
    · walk_at "go"
      exact kk _ _ _ _ h1 h2 h3 h4
  · walk_at "go"
    exact kk _ _ _ _ h1 h2 h3 h4

/-! ### comparing -/
def SR__law_same : Nat → FSpec
  | 0 => fun _ _ => False
  | n + 1 => fun cs Q => ∃ t d, cs = [(t, .fz), (d, .fz)] ∧ d.depth ≤ n ∧ d.plain = true ∧ Q (.bool (sameD t d), .full) []
theorem zero__law_same : ∀ cs Q, ¬ SR__law_same 0 cs Q := fun _ _ h => h
theorem okr__law_same : ∀ n, FSok 2 (SR__law_same n)
  | 0 => ⟨fun _ _ _ _ h => h, fun _ _ h => h.elim⟩
  | n + 1 => ⟨fun cs Q Q' k ⟨t, d, h1, h2, h3, q⟩ => ⟨t, d, h1, h2, h3, k _ _ q⟩, fun cs Q ⟨t, d, h, _⟩ => by rw [h]; rfl⟩
abbrev S__law_same : FSpec := SR__law_same 8
theorem loop_same {n : Nat} {xs ys : List PyData} {Q : TVal → List TVal → Prop} (hlen : xs.length = ys.length) (hl : ys.length ≤ 16777216) (hd : PyData.depthAll ys + 1 ≤ n) (hp : PyData.plainAll ys = true) (mk : List PyData → PyData) (hmk : mk = .list ∨ mk = .tuple) (q : Q (.bool (sameDs xs ys), .full) []) (K : TSt → Prop) (hK : ∀ o, (sameDs xs ys = true → K [some (mk xs, .fz), some (mk ys, .fz), o])) :
    wFor (iR1 (oE (eN (on1 fLen) (aCons (oV 1) aNil)))) (gN 2) (wIf (tNot (tOf (eCall (SR__law_same n) (aCons (oE (e2 fIx (oV 0) (oV 2))) (aCons (oE (e2 fIx (oV 1) (oV 2))) aNil))))) (wRet (eC (.bool false))) wNext) { fnE [] Q with nx := K } [some (mk xs, .fz), some (mk ys, .fz), none] := by
  refine for_inv (ts1 := [some (mk xs, .fz), some (mk ys, .fz), none]) (rngD 0 ys.length) (fun i ts => ∃ o, ts = [some (mk xs, .fz), some (mk ys, .fz), o] ∧ ∀ (j : Nat) (x y : PyData), j < i → xs[j]? = some x → ys[j]? = some y → sameD x y = true) ?_ ?_ ?_ ?_
  · intro K' h
    rcases hmk with rfl | rfl <;> (walk_at "sx"; intro hh; exact ⟨⟨by omega, by omega⟩, h⟩)
  · exact ⟨none, rfl, fun j x y h => absurd h (Nat.not_lt_zero _)⟩
  · rintro i d ts e ⟨o, rfl, hi⟩ K' hK'
    obtain ⟨rfl, hlt⟩ := rng_get e
    have hy : i < ys.length := by omega
    have hx : i < xs.length := by omega
    have ey : ys[i]? = some ys[i] := List.getElem?_eq_getElem hy
    have ex : xs[i]? = some xs[i] := List.getElem?_eq_getElem hx
    have my : ys[i] ∈ ys := List.getElem_mem hy
    have ay : atI ys (0 + (i : Int)) = some ys[i] := by rw [atI_of (by omega)]; simpa using ey
    have ax : atI xs (0 + (i : Int)) = some xs[i] := by rw [atI_of (by omega)]; simpa using ex
    have hdep := depth_mem my
    have hpl := plain_mem hp my
    cases n with
    | zero => omega
    | succ n =>
      rcases hmk with rfl | rfl <;>
      · walk_at "go"
        simp only [SR__law_same]
        refine ⟨_, ax, _, ay, xs[i], ys[i], rfl, by omega, hpl, ?_⟩
        walk_at "go"
        cases hs : sameD xs[i] ys[i] with
        | true =>
          walk_at "go"
          refine hK' _ ⟨_, rfl, fun j x y hj h1 h2 => ?_⟩
          by_cases e : j < i
          · exact hi j x y e h1 h2
          · have : j = i := by omega
            subst this
            rw [ex] at h1; rw [ey] at h2
            cases h1; cases h2
            exact hs
        | false =>
          walk_at "go"
          rw [sameDs_at ex ey hs] at q
          exact q
  · rintro ts ⟨o, rfl, hi⟩
    refine hK o (sameDs_all hlen fun j x y h1 h2 => hi j x y ?_ h1 h2)
    rw [rng_len]
    have := (List.getElem?_eq_some_iff.mp h2).1
    omega
theorem wp__law_same : ∀ n cs Q, cs.length = 2 → SR__law_same (n + 1) cs Q → w__law_same (SR__law_same n) (fnE [] Q) (cs.map some ++ List.replicate 1 none) := by
  rintro n cs Q - ⟨t, d, rfl, hd, hp, q⟩
  unfold w__law_same
  cases d with
  | none => cases t <;> (walk_at "go"; exact q)
  | bool b => cases t <;> (walk_at "go"; first | exact q | exact ⟨depOk_l (Nat.zero_le _), q⟩)
  | int b => cases t <;> (walk_at "go"; exact q)
  | str b => cases t <;> (walk_at "go"; first | exact q | exact ⟨depOk_l (Nat.zero_le _), q⟩)
  | list b =>
    cases t with
    | list a =>
      walk_at "go"
      intro h1 h2
      split
      · walk_at "go"
        rename_i hl
        rw [show sameD (.list a) (.list b) = false from sameDs_len (by omega)] at q
        exact q
      · rename_i hl
        walk_at "go"
        refine loop_same (mk := .list) (by omega) h2 (by simp only [PyData.depth] at hd; omega) (by simpa only [PyData.plain] using hp) (.inl rfl) q _ ?_
        intro o hs
        walk_at "go"
        rw [show sameD (.list a) (.list b) = true from hs] at q
        exact q
    | _ => walk_at "go"; exact q
  | tuple b =>
    cases t with
    | tuple a =>
      walk_at "go"
      intro h1 h2
      split
      · walk_at "go"
        rename_i hl
        rw [show sameD (.tuple a) (.tuple b) = false from sameDs_len (by omega)] at q
        exact q
      · rename_i hl
        walk_at "go"
        refine loop_same (mk := .tuple) (by omega) h2 (by simp only [PyData.depth] at hd; omega) (by simpa only [PyData.plain] using hp) (.inr rfl) q _ ?_
        intro o hs
        walk_at "go"
        rw [show sameD (.tuple a) (.tuple b) = true from hs] at q
        exact q
    | _ => walk_at "go"; exact q
  | dict b => exact absurd hp (by simp [PyData.plain])
theorem same_k {t d : PyData} {Q : TVal → List TVal → Prop} (hd : d.depth ≤ 7) (hp : d.plain = true) (q : Q (.bool (sameD t d), .full) []) : S__law_same [(t, .fz), (d, .fz)] Q := ⟨t, d, rfl, hd, hp, q⟩
theorem same_t {d : PyData} {Q : TVal → List TVal → Prop} (hd : d.depth ≤ 7) (hp : d.plain = true) (q : Q (.bool true, .full) []) : S__law_same [(d, .fz), (d, .fz)] Q := same_k hd hp (by rw [sameD_refl d hp]; exact q)
theorem same_i {i : Int} {Q : TVal → List TVal → Prop} (q : Q (.bool true, .full) []) : S__law_same [(.int i, .fz), (.int i, .fz)] Q := same_t (Nat.zero_le _) rfl q
end TV
end
set_option Elab.async false
set_option linter.all false
set_option maxRecDepth 100000
set_option maxHeartbeats 4000000
/-! Part 14: loops over numbers from lo to hi. -/
section
namespace TV
open PySem PySem.Spec L2
def rngI (lo hi : Int) : List Int := (List.range (hi - lo).toNat).map fun i => lo + (i : Nat)
theorem rngD_eq {lo hi : Int} : rngD lo hi = (rngI lo hi).map PyData.int := by unfold rngD rngI; rw [List.map_map]; rfl
theorem mem_rngI {lo hi i : Int} : i ∈ rngI lo hi ↔ lo ≤ i ∧ i < hi := by
  unfold rngI
  rw [List.mem_map]
  constructor
  · rintro ⟨j, hj, rfl⟩
    rw [List.mem_range] at hj
    omega
  · rintro ⟨h1, h2⟩
    exact ⟨(i - lo).toNat, by rw [List.mem_range]; omega, by omega⟩
theorem rngI_len {lo hi : Int} : (rngI lo hi).length = (hi - lo).toNat := by unfold rngI; simp
theorem rngI_get {lo hi : Int} {j : Nat} (h : j < (hi - lo).toNat) : (rngI lo hi)[j]? = some (lo + j) := by
  unfold rngI
  rw [List.getElem?_map, List.getElem?_range h]
  rfl
theorem rngI_sorted {lo hi : Int} : (rngI lo hi).Pairwise (· < ·) := by
  unfold rngI
  rw [List.pairwise_map]
  exact List.Pairwise.imp (fun h => by omega) List.pairwise_lt_range
theorem compL_rng {G : WG} {Tt : WT} {We : WE} {vs : List Nat} {Q : List TVal → TSt → Prop} {lo hi : Int} {ts1 : TSt} (f : Int → Option TVal) (hl : hi - lo ≤ 16777216)
    (h : ∀ i, lo ≤ i → i < hi → ∀ (KS : TVal → TSt → Prop) (KN : TSt → Prop), (∀ c t, f i = some c → wipeT t vs = ts1 → KS c t) → (∀ t, f i = none → wipeT t vs = ts1 → KN t) → G (.int i, .fz) ts1 fun ts1 => Tt ts1 fun b ts2 => if b = true then We ts2 KS else KN ts2)
    (q : Q ((rngI lo hi).filterMap f) ts1) : compL G Tt We vs Q (rngD lo hi) [] ts1 := by
  refine compL_pure (fun d => match d with | .int i => f i | _ => none) (by rw [rng_len]; omega) ?_ ?_
  · intro d hd KS KN k1 k2
    rw [rngD_eq] at hd
    obtain ⟨i, hi', rfl⟩ := List.mem_map.mp hd
    obtain ⟨h1, h2⟩ := mem_rngI.mp hi'
    exact h i h1 h2 KS KN k1 k2
  · rw [rngD_eq, List.filterMap_map]
    exact q
theorem filterMap_if {α β : Type} {P : α → Prop} [DecidablePred P] {g : α → β} : ∀ {xs : List α}, xs.filterMap (fun i => if P i then some (g i) else none) = (xs.filter fun i => decide (P i)).map g
  | [] => rfl
  | x :: xs => by
    rw [List.filterMap_cons, List.filter_cons]
    by_cases h : P x
    · simp only [if_pos h, decide_eq_true h, ↓reduceIte, List.map_cons, filterMap_if]
    · simp only [if_neg h, decide_eq_false h, Bool.false_eq_true, ↓reduceIte, filterMap_if]
theorem clean_ints {m : Own} : ∀ {ns : List Int}, (ns.map fun i => (PyData.int i, m)).all clean = true
  | [] => rfl
  | n :: ns => by rw [List.map_cons, List.all_cons, clean_ints]; simp [clean, noList]
theorem fst_ints {m : Own} {ns : List Int} : (ns.map fun i => (PyData.int i, m)).map (fun x => x.fst) = ns.map PyData.int := by rw [List.map_map]; rfl
theorem forL_rng {G : WG} {Wb : WS} {D : TEnds} {lo hi : Int} {ts1 : TSt} (I : Int → TSt → Prop) (hlo : lo ≤ hi) (h0 : I lo ts1)
    (hs : ∀ i ts, lo ≤ i → i < hi → I i ts → ∀ K : TSt → Prop, (∀ t, I (i + 1) t → K t) → G (.int i, .fz) ts fun ts1 => Wb { D with nx := K, ct := K, bk := D.nx } ts1) (hd : ∀ ts, I hi ts → D.nx ts) : forL G Wb D (rngD lo hi) ts1 := by
  refine forL_inv (fun j ts => I (lo + j) ts) (by simpa using h0) ?_ ?_
  · intro j d ts e hI K hK
    obtain ⟨rfl, hlt⟩ := rng_get e
    exact hs _ ts (by omega) hlt hI K fun t ht => hK t (by rw [show lo + ((j + 1 : Nat) : Int) = lo + j + 1 by omega]; exact ht)
  · intro ts hI
    rw [rng_len] at hI
    rw [show lo + (((hi - lo).toNat : Nat) : Int) = hi by omega] at hI
    exact hd ts hI
end TV
end
set_option Elab.async false
set_option linter.all false
set_option maxRecDepth 100000
set_option maxHeartbeats 4000000
/-! Part 15: lists of numbers, bounds on the size of numbers, equal data. -/
section
namespace TV
open PySem PySem.Spec L2
theorem eqv_ints (xs ys : List Int) : PyData.eqv (.list (xs.map PyData.int)) (.list (ys.map PyData.int)) = decide (xs = ys) := PySem.W.Datum.eqv (α := List Int) xs ys
theorem eqv_tints (xs ys : List Int) : PyData.eqv (.tuple (xs.map PyData.int)) (.tuple (ys.map PyData.int)) = decide (xs = ys) := (PySem.W.Datum.eqv (α := PySem.W.Tup Int) ⟨xs⟩ ⟨ys⟩).trans (decide_eq_decide.mpr ⟨fun e => congrArg PySem.W.Tup.items e, fun e => by rw [e]⟩)
theorem eqv_prs (a b c d : Int) : PyData.eqv (.tuple [.int a, .int b]) (.tuple [.int c, .int d]) = decide (a = c ∧ b = d) := (eqv_tints [a, b] [c, d]).trans (decide_eq_decide.mpr (by simp))
theorem eqv_ints_self (xs : List Int) : PyData.eqv (.list (xs.map PyData.int)) (.list (xs.map PyData.int)) = true := by rw [eqv_ints]; exact decide_eq_true rfl
theorem any_ints (xs : List Int) (x : Int) : ((xs.map PyData.int).any fun d => PyData.eqv d (.int x)) = decide (x ∈ xs) := PySem.W.any_datum xs x
theorem dep_ints {ns : List Int} : PyData.depth (.list (ns.map PyData.int)) ≤ 7 := by show PyData.depthAll _ + 1 ≤ 7; rw [depthAll_ints]; decide
theorem dep_ints64 {ns : List Int} : PyData.depth (.list (ns.map PyData.int)) ≤ 64 := Nat.le_trans dep_ints (by decide)
theorem plain_ints : ∀ ns : List Int, PyData.plainAll (ns.map PyData.int) = true
  | [] => rfl
  | n :: ns => by show (PyData.plain _ && PyData.plainAll _) = true; rw [plain_ints ns]; rfl
theorem cutD_map {α β : Type} (f : α → β) (xs : List α) (lo hi : Option Int) : cutD (xs.map f) lo hi = (cutD xs lo hi).map f := by
  unfold cutD
  rw [List.length_map, ← List.map_drop, ← List.map_take]
theorem cut_from {α : Type} (xs : List α) {i : Int} (h0 : 0 ≤ i) : cutD xs (some i) none = xs.drop i.toNat := by
  obtain ⟨k, rfl⟩ := Int.eq_ofNat_of_zero_le h0
  unfold cutD
  rw [HT.sIx_none, HT.sIx_nat, Int.toNat_natCast]
  rcases Nat.le_total k xs.length with h | h
  · rw [Nat.min_eq_left h]
    exact List.take_of_length_le (by rw [List.length_drop]; omega)
  · rw [Nat.min_eq_right h, List.drop_eq_nil_of_le (Nat.le_refl _), List.drop_eq_nil_of_le h]
    simp
theorem cut_to {α : Type} (xs : List α) {i : Int} (h0 : 0 ≤ i) : cutD xs none (some i) = xs.take i.toNat := by
  obtain ⟨k, rfl⟩ := Int.eq_ofNat_of_zero_le h0
  unfold cutD
  rw [HT.sIx_none, HT.sIx_nat, Int.toNat_natCast, List.drop_zero, Nat.sub_zero, List.take_eq_take_iff]
  omega
theorem noLists_app : ∀ xs ys : List PyData, noLists (xs ++ ys) = (noLists xs && noLists ys)
  | [], ys => by simp [noLists]
  | x :: xs, ys => by simp [noLists, noLists_app xs ys, Bool.and_assoc]
/-- a loop over a list of numbers: what is told of the part behind it -/
theorem forL_ints {G : WG} {Wb : WS} {D : TEnds} {ns : List Int} {ts1 : TSt} (I : List Int → TSt → Prop) (h0 : I [] ts1)
    (hs : ∀ l n r ts, ns = l ++ n :: r → I l ts → ∀ K : TSt → Prop, (∀ t, I (l ++ [n]) t → K t) → G (.int n, .fz) ts fun ts1 => Wb { D with nx := K, ct := K, bk := D.nx } ts1) (hd : ∀ ts, I ns ts → D.nx ts) : forL G Wb D (ns.map PyData.int) ts1 := by
  refine forL_inv (fun j ts => I (ns.take j) ts) h0 ?_ ?_
  · intro j d ts e hI K hK
    rw [List.getElem?_map, Option.map_eq_some_iff] at e
    obtain ⟨n, e, rfl⟩ := e
    have et : ns.take (j + 1) = ns.take j ++ [n] := by rw [List.take_add_one, e]; rfl
    obtain ⟨hj, ej⟩ := List.getElem?_eq_some_iff.mp e
    refine hs (ns.take j) n (ns.drop (j + 1)) ts ?_ hI K fun t ht => hK t (by rw [et]; exact ht)
    rw [← ej, ← List.drop_eq_getElem_cons hj, List.take_append_drop]
  · intro ts hI
    rw [List.length_map, List.take_length] at hI
    exact hd ts hI
/-- a list of numbers with the property P, one for each thing, none left out -/
theorem compL_ns {G : WG} {Tt : WT} {We : WE} {vs : List Nat} {Q : List TVal → TSt → Prop} {ds : List PyData} {ts1 : TSt} (P : Int → Prop) (S : TSt → Prop) (h0 : S ts1) (hl : ds.length ≤ 16777216)
    (hs : ∀ (i : Nat) d ts, ds[i]? = some d → S ts → ∀ (KS : TVal → TSt → Prop) (KN : TSt → Prop), (∀ n t, P n → S (wipeT t vs) → KS (.int n, .full) t) → G (d, .fz) ts fun ts1 => Tt ts1 fun b ts2 => if b = true then We ts2 KS else KN ts2)
    (hd : ∀ (ns : List Int) ts, ns.length = ds.length → (∀ n ∈ ns, P n) → S ts → Q (ns.map fun n => (PyData.int n, Own.full)) ts) : compL G Tt We vs Q ds [] ts1 := by
  refine compL_inv (fun i acc ts => ∃ ns : List Int, acc = ns.map (fun n => (PyData.int n, Own.full)) ∧ ns.length = i ∧ (∀ n ∈ ns, P n) ∧ S ts) ⟨[], rfl, rfl, by simp, h0⟩ ?_ ?_
  · rintro i d acc ts e ⟨ns, rfl, rfl, hp, hS⟩ KS KN k1 k2
    have hi := (List.getElem?_eq_some_iff.mp e).1
    refine hs _ d ts e hS KS KN fun n t pn hS2 => k1 _ _ (by rw [List.length_map]; omega) ⟨ns ++ [n], by rw [List.map_append]; rfl, by simp, ?_, hS2⟩
    intro m hm
    rcases List.mem_append.mp hm with h | h
    · exact hp m h
    · rw [List.mem_singleton.mp h]; exact pn
  · rintro acc ts ⟨ns, rfl, h2, hp, hS⟩
    exact hd ns ts h2 hp hS
/-! ### numbers of at most k places of two -/
def Bd (k : Nat) (a : Int) : Prop := a.natAbs < 2 ^ k
section
variable {j k : Nat} {a b : Int}
theorem Bd.mono (h : Bd j a) (l : j ≤ k) : Bd k a := Nat.lt_of_lt_of_le h (Nat.pow_le_pow_right (by decide) l)
theorem Bd.mul (h : Bd j a) (g : Bd k b) : Bd (j + k) (a * b) := by
  unfold Bd at *
  rw [Int.natAbs_mul, Nat.pow_add]
  exact Nat.mul_lt_mul'' h g
theorem Bd.add (h : Bd k a) (g : Bd k b) : Bd (k + 1) (a + b) := by
  unfold Bd at *
  have := Int.natAbs_add_le a b
  rw [Nat.pow_succ]
  omega
theorem Bd.sub (h : Bd k a) (g : Bd k b) : Bd (k + 1) (a - b) := by
  unfold Bd at *
  have := Int.natAbs_sub_le a b
  rw [Nat.pow_succ]
  omega
theorem Bd.ok (h : Bd j a) (g : Bd k b) (h0 : 0 < j) (h1 : 0 < k) (l : j + k ≤ 1000000) : mulOk a b := mulOk_of h g h0 h1 l
theorem Bd.pos (h : Bd k a) (h0 : 0 < a) : 0 < k := by
  unfold Bd at h
  cases k with
  | zero => omega
  | succ n => omega
end
end TV
end
set_option Elab.async false
set_option linter.all false
set_option maxRecDepth 100000
set_option maxHeartbeats 1000000
/-! Part 16: a loop over a list of one's own, that is one's own again behind the loop. -/
section
namespace TV
open PySem PySem.Spec L2
section
variable {K : PySem.W.Frag} {F F' : Addr → Prop} {ts : TSt} {σ : St} {H H' : Hp} {A A' B : List Addr}
theorem Core.less (h : ∀ a, F a → F' a) (k : Core K F' ts σ H A) : Core K F ts σ H A := by
  obtain ⟨A₀, p, w⟩ := k.rp
  exact ⟨k.nd, fun a ha f => k.dj a ha (h a f), fun a f => k.fa a (h a f), A₀, p, w.stay (stay_less fun a x => x.imp (h a) id) fun _ _ => rfl⟩
theorem Chg.more (g : Chg A H B H') (h : ∀ a ∈ A, a ∈ A') : Chg A' H B H' := ⟨fun b o e n => g.ext b o e fun x => n (h b x), fun x hx => (g.sub x hx).imp (h x) id⟩
/-- an owned flat list -/
theorem flat_own {M : Addr → Prop} {m : Own} {v : V} {ds : List PyData} (w : Ow K H M m v (.list ds) B) (hm : m ≠ .fz) (hf : noLists ds = true) : ∃ a xs, v = .ref a ∧ B = [a] ∧ H a = some (.lst xs) ∧ RpAll K H M xs ds := by
  cases w with
  | fz => exact absurd rfl hm
  | sc h => cases h
  | topL h r => exact ⟨_, _, rfl, rfl, h, r⟩
  | fullL h r =>
    obtain ⟨r', rfl⟩ := OwAll.flat _ _ _ r hf
    exact ⟨_, _, rfl, rfl, h, r'⟩
end
def wForB (i : Nat) (G : WG) (Wb : WS) : WS := fun D ts => ∃ ds m, ts[i]? = some (some (.list ds, m)) ∧ m ≠ .fz ∧ noLists ds = true ∧
  forL G Wb { D with nx := fun t => t[i]? = some none ∧ D.nx (t.set i (some (.list ds, m))) } ds (ts.set i none)
section
variable {X : Cx} {J : List Nat} {tg : Expr} {body : List Stmt} {pos pos2 : Pos} {G : WG} {Wb : WS} {i : Nat} {x : Str}
theorem ss_forB (hN : X.N[i]? = some x) (hv : Vis X.env.scope x) (hp : PassesOwn (model X.prog X.w) X.A X.env X.xe) (hc : X.calm = true) (hg : SG X (i :: J) tg G) (hb : SSs X (i :: J) body Wb) (hd : (x == ("__debug__" : Str)) = false := by decide) (hcd : (x == ("__classdict__" : Str)) = false := by decide) (hs : ∀ y, foldedSetIterable (.Name x pos2) X.env y = pure y := by intro _; rfl) : SS X J (.For tg (.Name x pos2) body [] pos) (wForB i G Wb) := by
  refine ⟨?_, fun F io hj => ⟨fun pins s σ H D I q => ?_⟩⟩
  · rintro D D' ts l ⟨ds, m, e, hm, hf, q⟩
    exact ⟨ds, m, e, hm, hf, forL_mo hg.mo hb.mo (D := { D with nx := fun t => t[i]? = some none ∧ D.nx (t.set i (some (.list ds, m))) }) (D' := { D' with nx := fun t => t[i]? = some none ∧ D'.nx (t.set i (some (.list ds, m))) }) ⟨fun t h => ⟨h.1, l.nx _ h.2⟩, l.rt, l.bk, l.ct⟩ _ _ q⟩
  obtain ⟨ts, A, k, p, ds, m, e, hm, hf, q⟩ := q
  obtain ⟨v, B, A', hσ, w, hperm, k0, nb, fb⟩ := k.take e
  obtain ⟨a, xs, rfl, rfl, ha, hr⟩ := flat_own w hm hf
  have sub : ∀ b ∈ A', b ∈ A := fun b hb => hperm.mem_iff.mpr (List.mem_append_right _ hb)
  have aA : a ∈ A := hperm.mem_iff.mpr (List.mem_append_left _ List.mem_cons_self)
  have na : a ∉ A' := fun h => k0.dj a h (.inr List.mem_cons_self)
  have hj' : (((i, some (V.ref a)) :: io).map (·.1)) = i :: J := by rw [List.map_cons, hj]
  generalize hio : ((i, some (V.ref a)) :: io) = io' at hj'
  have pio : Pin io' σ := by
    rw [← hio]
    intro y hy
    rcases List.mem_cons.mp hy with h | h
    · rw [h]; exact hσ
    · exact p y h
  have pback : ∀ σ', Pin io' σ' → Pin io σ' ∧ σ'[i]? = some (some (V.ref a)) := fun σ' h => by
    rw [← hio] at h
    exact ⟨fun y hy => h y (List.mem_cons_of_mem _ hy), h (i, some (V.ref a)) List.mem_cons_self⟩
  have st0 : Stay H (fun b => F b ∨ b ∈ A) H (fun b => (F b ∨ b ∈ [a]) ∨ b ∈ A') := stay_less fun b h => by
    rcases h with (h | h) | h
    · exact .inl h
    · rw [List.mem_singleton.mp h]; exact .inr aA
    · exact .inr (sub b h)
  generalize hF : (fun b => F b ∨ b ∈ [a]) = F' at k0
  have hFF : ∀ b, F b → F' b := fun b h => by rw [← hF]; exact .inl h
  have hFa : F' a := by rw [← hF]; exact .inr List.mem_cons_self
  have q1 : forL G Wb (endsR X.K Y0 F' io' H A' D) ds (ts.set i none) := by
    refine forL_mo hg.mo hb.mo (D := { endsR X.K Y0 F io H A D with nx := fun t => t[i]? = some none ∧ (endsR X.K Y0 F io H A D).nx (t.set i (some (.list ds, m))) }) ⟨?_, ?_, ?_, ?_⟩ _ _ q
    · rintro t ⟨ht, h⟩ σ' H2 A2 k2 g2 p2
      obtain ⟨p3, hσ'⟩ := pback σ' p2
      have k3 : Core X.K (fun b => F b ∨ b ∈ [a]) t σ' H2 A2 := by rw [hF]; exact k2
      have w0 : Ow X.K H (fun b => (F b ∨ b ∈ [a]) ∨ b ∈ A') m (.ref a) (.list ds) [a] := Ow.stay st0 _ _ _ _ w fun _ _ => rfl
      have k00 : Core X.K (fun b => F b ∨ b ∈ [a]) (ts.set i none) σ H A' := by rw [hF]; exact k0
      have w2 := Chg.ow k00 g2 w0
      have hi : i < t.length := (List.getElem?_eq_some_iff.mp ht).1
      obtain ⟨A3, k4, s3⟩ := k3.put (c := (.list ds, m)) nb fb hi w2
      have e2 : σ'.set i (some (V.ref a)) = σ' := by
        apply List.ext_getElem?
        intro j
        by_cases hj : i = j
        · subst hj
          obtain ⟨hl, _⟩ := List.getElem?_eq_some_iff.mp hσ'
          rw [List.getElem?_set_self hl, hσ']
        · rw [List.getElem?_set_ne hj]
      rw [e2] at k4
      refine h σ' H2 A3 k4 ⟨fun b o e n => g2.ext b o e fun h => n (sub b h), fun b hb => ?_⟩ p3
      rcases s3 b hb with h | h
      · exact (g2.sub b h).imp (sub b) id
      · rw [List.mem_singleton.mp h]; exact .inl aA
    · intro c t h
      refine ⟨fun v σ' H2 A2 B2 k2 nb2 fb2 g2 p2 w2 => ?_, fun _ _ _ _ _ _ => trivial⟩
      exact h.1 v σ' H2 A2 B2 (k2.less fun b h => h.imp (hFF b) id) nb2 (fun b hb f => fb2 b hb (hFF b f)) (g2.more sub) (pback σ' p2).1 (Ow.stay (stay_less fun b h => h.imp (fun h => h.imp (hFF b) id) id) _ _ _ _ w2 fun _ _ => rfl)
    · intro t h σ' H2 A2 k2 g2 p2
      exact h σ' H2 A2 (k2.less hFF) (g2.more sub) (pback σ' p2).1
    · intro t h σ' H2 A2 k2 g2 p2
      exact h σ' H2 A2 (k2.less hFF) (g2.more sub) (pback σ' p2).1
  have hr0 : RpAll X.K H (fun b => F' b ∨ b ∈ A') xs ds := by
    rw [← hF]
    exact RpAll.stay st0 _ _ hr
  refine (ps_for hp hc (pi_list (pe_var hN hv hd hcd)) (hg.run F' io' hj') (hb.run F' io' hj') hs).run pins s σ H D I ?_
  refine ⟨.ref a, hσ, a, rfl, ⟨xs, .inl (.inl ha)⟩, ?_⟩
  refine ⟨fun j m σ' H' => m = ds.length - j ∧ j ≤ ds.length ∧ ∃ ts' A2, Core X.K F' ts' σ' H' A2 ∧ Chg A' H A2 H' ∧ Pin io' σ' ∧ RpAll X.K H' (fun b => F' b ∨ b ∈ A2) xs ds ∧ forL G Wb (endsR X.K Y0 F' io' H A' D) (ds.drop j) ts', ⟨_, rfl, Nat.zero_le _, _, A', k0, Chg.refl, pio, hr0, q1⟩, ?_⟩
  rintro j m2 σ2 H2 ⟨rfl, hj2, ts2, A2, k2, g2, p2, r2, q2⟩
  have ha2 : H2 a = some (.lst xs) := g2.ext a _ ha na
  by_cases hlt : j < ds.length
  · have e : ds[j]? = some ds[j] := List.getElem?_eq_getElem hlt
    obtain ⟨u, hu, ru⟩ := r2.get j e
    refine .inr ⟨⟨xs, u, .inl (.inl ha2), hu⟩, fun σ' H' => ∃ ts' A3, Core X.K F' ts' σ' H' A3 ∧ Chg A' H A3 H' ∧ Pin io' σ' ∧ RpAll X.K H' (fun b => F' b ∨ b ∈ A3) xs ds ∧ forL G Wb (endsR X.K Y0 F' io' H A' D) (ds.drop (j + 1)) ts', fun σ' H' h => ⟨ds.length - (j + 1), by omega, rfl, by omega, h⟩, fun y H3 hy => ?_⟩
    obtain ⟨rfl, hx⟩ := hy
    have e2 := hx xs (.inl (.inl ha2))
    rw [hu] at e2
    cases e2
    rw [List.drop_eq_getElem_cons hlt] at q2
    have k3' : Core X.K (fun b => F' b ∨ b ∈ ([] : List Addr)) ts2 σ2 H3 A2 := by
      have e0 : (fun b => F' b ∨ b ∈ ([] : List Addr)) = F' := by funext b; simp
      rw [e0]; exact k2
    refine ⟨ts2, A2, [], (ds[j], .fz), k3', List.nodup_nil, fun _ h => absurd h List.not_mem_nil, .fz (Rp.stay (fun b o e n => ⟨e, fun z => n ?_⟩) _ _ ru), p2, hg.mo _ _ _ _ (fun ts4 q4 σ4 H4 A4 k4 g4 p4 => ?_) q2⟩
    · exact z.elim (fun h => h.elim .inl fun h => absurd h List.not_mem_nil) .inr
    · rw [List.append_nil] at g4
      have g5 := g2.trans g4
      have z4 := RpAll.stay (g4.stay k2.fa) _ _ r2
      refine ⟨ts4, A4, k4, p4, hb.mo { endsR X.K Y0 F' io' H A' D with nx := forL G Wb (endsR X.K Y0 F' io' H A' D) (ds.drop (j + 1)), ct := forL G Wb (endsR X.K Y0 F' io' H A' D) (ds.drop (j + 1)), bk := (endsR X.K Y0 F' io' H A' D).nx } _ _ ⟨?_, ?_, ?_, ?_⟩ q4⟩
      · exact fun ts5 q5 σ5 H5 A5 k5 g6 p5 => ⟨ts5, A5, k5, g5.trans g6, p5, RpAll.stay (g6.stay k4.fa) _ _ z4, q5⟩
      · exact fun c t => contR_tr g5
      · exact fun t => contS_tr g5
      · exact fun ts5 q5 σ5 H5 A5 k5 g6 p5 => ⟨ts5, A5, k5, g5.trans g6, p5, RpAll.stay (g6.stay k4.fa) _ _ z4, q5⟩
  · have e : j = ds.length := by omega
    subst e
    rw [List.drop_length] at q2
    exact .inl ⟨⟨xs, .inl (.inl ha2), Nat.le_of_eq r2.len⟩, q2 σ2 H2 A2 k2 g2 p2⟩
end
theorem wForB_k {G : WG} {Wb : WS} {D : TEnds} {i : Nat} {ts : TSt} (h : ∃ ds m, ts[i]? = some (some (.list ds, m)) ∧ m ≠ .fz ∧ noLists ds = true ∧
  forL G Wb { D with nx := fun t => t[i]? = some none ∧ D.nx (t.set i (some (.list ds, m))) } ds (ts.set i none)) : wForB i G Wb D ts := h
end TV
end
set_option Elab.async false
set_option linter.all false
set_option maxRecDepth 100000
set_option maxHeartbeats 1000000
/-! Part 17: list(range(n)). -/
section
namespace TV
open PySem PySem.Spec L2
def fRngL : F1 := fun o Q => match o.1 with
  | .int j => RgOk 0 j ∧ Q (.list (rngD 0 j), .full)
  | _ => False
abbrev eListR1 (wa : WO) : WE := e1 fRngL wa
theorem rg_rp {K H M} {a b : Int} : RpAll K H M (rgV a b) (rngD a b) := by
  have e : rgV a b = (rngI a b).map V.int := by unfold rgV rngI; rw [List.map_map]; rfl
  rw [rngD_eq, e]
  exact rp_ints _
theorem se_listR1 {X : Cx} {e : Expr} {p p2 pos pos2 : Pos} {wa : WO} (hc : X.calm = true) (hg : Gl X "list") (hm : X.mg "list" = none) (hg2 : Gl X "range") (hm2 : X.mg "range" = none) (h : SO X e wa)
    (na : starEach [e] X.env = (false, eval e X.env) :: starEach [] X.env := by rfl) (na2 : starEach [Expr.Call (.Name "range" p2) [e] [] pos2] X.env = (false, eval (Expr.Call (.Name "range" p2) [e] [] pos2) X.env) :: starEach [] X.env := by rfl) : SE X (.Call (.Name "list" p) [.Call (.Name "range" p2) [e] [] pos2] [] pos) (eListR1 wa) := by
  have s1 : Sd1 X.K fRngL (fun x H Q => ∃ n, x = .int n ∧ RgOk 0 n ∧ ∀ q, H q = none → Q (.ref q) (upd H q (.lst (rgV 0 n)))) := by
    refine ⟨fun o Q Q' k h => ?_, fun H M x o Q hM ho h => ?_⟩
    · obtain ⟨d, b⟩ := o
      cases d <;> first | exact False.elim h | exact ⟨h.1, k _ h.2⟩
    · obtain ⟨d, b⟩ := o
      cases d <;> first | exact False.elim h | skip
      refine ⟨_, opn_int ho rfl, h.1, fun q hq => q_lst h.2 rg_rp (.inl ?_) hq⟩
      rw [rngD_eq]
      exact (mkL_ints _).symm
  exact ⟨e1_mo s1.mo h.mo, fun F => pe_weak (pe_listRg hc hg hm (prg_1 hg2 hm2 (h.run F) na) na2) fun _ _ _ => rd_e1 s1 h.mo⟩
theorem rgOk_of {n : Int} (h0 : 0 ≤ n) (h1 : n ≤ 16777216) : RgOk 0 n := RgOk.of_le (by decide) h1 (by decide) h0
theorem rgc_pos {i j c : Int} {n : Nat} (h0 : -(2 ^ 40) ≤ i) (h1 : i < j) (h2 : j ≤ 2 ^ 40) (c0 : 0 < c) (c1 : c < 1073741824) (hn : (n : Int) = (j - i - 1) / c + 1) : RgC i j c n := by
  have d0 := Int.ediv_nonneg (show 0 ≤ j - i - 1 by omega) (show 0 ≤ c by omega)
  have d1 := Int.ediv_le_self (b := c) (show 0 ≤ j - i - 1 by omega)
  have e : Builtin.Range.rangeSize i j c = n := by
    unfold Builtin.Range.rangeSize
    rw [if_pos (by omega), if_pos h1, hn]
  refine ⟨by omega, by omega, ?_, e⟩
  unfold Builtin.Range.small
  rw [e]
  simp only [Builtin.Range.rangeFitsLong, Bool.and_eq_true, Bool.or_eq_true, decide_eq_true_eq, beq_iff_eq, show c > 0 from c0, if_true]
  omega
end TV
end
set_option Elab.async false
set_option linter.all false
set_option maxRecDepth 100000
set_option maxHeartbeats 1000000
/-! Part 18: gcd. -/
section
namespace TV
open PySem PySem.Spec L2
def fGcd : F2 := fun o p Q => match o.1, p.1 with
  | .int i, .int j => Q (.int ((Nat.gcd i.natAbs j.natAbs : Nat) : Int), .full)
  | _, _ => False
theorem sd_gcd {K} : SdN K (on2 fGcd) rGcd := by
  refine sdN2 (by intro o p Q Q' k h; obtain ⟨d, b⟩ := o; obtain ⟨e, c⟩ := p; cases d <;> cases e <;> first | exact False.elim h | exact k _ h) fun H M x y o p Q hM ho hp h => ?_
  obtain ⟨d, b⟩ := o
  obtain ⟨e, c⟩ := p
  cases d <;> cases e <;> first | exact False.elim h | exact ⟨_, _, by rw [opn_int ho rfl, opn_int hp rfl], q_int h⟩
section
variable {X : Cx} {e : Expr} {es : List Expr} {pos : Pos} {W : WA}
theorem se_callBf {h : FN} {id : String} {x : Str} {p : Pos} {r} (hc : CallR X (.builtin id) r) (s : SdN X.K h r) (hg : Gl X x) (hm : X.mg x = some (.builtin id)) (ha : SA X (e :: es) W) (hdb : (x == ("__debug__" : Str)) = false := by decide)
    (he : starEach (e :: es) X.env = (false, eval e X.env) :: starEach es X.env := by rfl) (hpl : (backTo pos (starEach es X.env)).any (·.1) = false := by rfl) : SE X (.Call (.Name x p) (e :: es) [] pos) (eN h W) :=
  ⟨eN_mo s.mo ha.mo, fun F => pe_weak (pe_callBfun hc hg hm (ha.run F) hdb he hpl) fun _ _ _ => rd_eN s ha.mo⟩
end
end TV
end
set_option Elab.async false
set_option linter.all false
set_option maxRecDepth 100000
set_option maxHeartbeats 1000000
/-! Part 19: methods that tell a value; looks at lists within lists of one's own: lent, copied, lengthened. -/
section
namespace TV
open PySem PySem.Spec L2
/-! ### o.m(e, ..) for a value -/
def tyD (T : String) : PyData → Prop
  | .list _ => T = "list"
  | .str _ => T = "str"
  | _ => False
theorem tyD_ty {K H M T o v} (h : OpnR K H M o v) (t : tyD T o.1) : tyV K T v H := by
  obtain ⟨d, b⟩ := o
  cases d <;> first | exact t.elim | skip
  · rw [opn_str h rfl]; exact t
  · obtain ⟨a, xs, rfl, s, r⟩ := opn_lstD h rfl
    exact .inl ⟨t, _, s⟩
def eMth (f : FN) (T : String) (wa : WO) (W : WA) : WE := fun ts Q => wa ts fun c ts1 => resP ts1 c (fun o => tyD T o.1) ∧ W ts1 fun cs ts2 => resPs ts2 (c :: cs) fun os => f os fun r => Q r ts2
section
variable {X : Cx} {e o : Expr} {es : List Expr} {pos apos cpos : Pos} {f : FN} {wa : WO} {Wa : WA} {name : Str} {id T : String} {r : V → List V → Hp → VK → Prop}
theorem se_mth (pa : PlainAttrs T) (slot : Slot T name id) (hty : typeOf (.builtin id) = pure (.type "method_descriptor")) (hm : MtR X id r) (s : SdN X.K f (fun xs H Q => ∃ x ys, xs = x :: ys ∧ r x ys H Q)) (ho : SO X o wa) (ha : SA X (e :: es) Wa)
    (hbase : attributeBase o name X.env (eval o X.env) = eval o X.env := by rfl)
    (hfew : ((backTo cpos (starEach (e :: es) X.env)).all (fun x => !x.1) && (backToKw cpos (keywordEach [] X.env)).all (fun x => x.1.isSome) && decide ((e :: es).length + ([] : List Keyword).length + (if ([] : List Keyword).isEmpty then 0 else 1) < 30)) = true := by rfl)
    (hline : (apos.endLine == cpos.line) = true := by rfl) (hs : starEach (e :: es) X.env = (false, eval e X.env) :: starEach es X.env := by rfl) (hplain : (backTo cpos (starEach es X.env)).any (·.1) = false := by rfl) : SE X (.Call (.Attribute o name apos) (e :: es) [] cpos) (eMth f T wa Wa) := by
  refine ⟨fun _ _ _ k => ho.mo _ _ _ fun _ _ ⟨t, q⟩ => ⟨t, ha.mo _ _ _ (fun _ _ => resPs_mo fun _ => s.mo _ _ _ fun _ => k _ _) q⟩, fun F => pe_weak (pe_bm pa slot hty hm (ho.run F) (ha.run F) hbase hfew hline hs hplain) ?_⟩
  rintro σ H Q ⟨ts, A, k0, q⟩
  refine ⟨ts, A, k0, ho.mo _ _ _ (fun c ts1 ⟨t, q⟩ v H1 A1 k1 g1 r1 => ?_) q⟩
  obtain ⟨o, h1, ht⟩ := cap_res k1 r1 t
  refine ⟨tyD_ty h1 ht, ts1, A1, k1, ha.mo _ _ _ (fun cs ts2 q vs H2 A2 k2 g2 r2 => ?_) q⟩
  obtain ⟨os, h3, q⟩ := caps_res (cs := c :: cs) (vs := v :: vs) k2 ⟨r1.keep k1 g2, r2⟩ q
  obtain ⟨x, ys, e, q⟩ := s.run _ _ _ _ _ k2.lists h3 (s.mo _ _ _ (fun c => pure_contE k2 (g1.trans g2)) q)
  cases e
  exact q
end
/-- the first place of a number -/
def fIdx : F2 := fun o p Q => match o.1, p.1 with
  | .list ds, .int z => ∃ l : List Int, ds = l.map PyData.int ∧ ∃ j : Nat, l[j]? = some z ∧ (∀ m, m < j → l[m]? ≠ some z) ∧ Q (.int (j : Nat), .full)
  | _, _ => False
theorem dpAll_ints {K H} : ∀ (l : List Int) (xs : List V), DpAll K H xs (l.map PyData.int) → xs = l.map V.int
  | [], _, .nil => rfl
  | i :: l, _, .cons h r => by
    cases h
    rw [dpAll_ints l _ r]
    rfl
theorem sd_index {K} : SdN K (on2 fIdx) (fun xs H Q => ∃ x ys, xs = x :: ys ∧ rIndex K x ys H Q) := by
  refine sdN2 (by intro o p Q Q' k h; obtain ⟨d, b⟩ := o; obtain ⟨e, c⟩ := p; cases d <;> cases e <;> first | exact False.elim h | (obtain ⟨l, e, j, h1, h2, h3⟩ := h; exact ⟨l, e, j, h1, h2, k _ h3⟩)) fun H M x y o p Q hM ho hp h => ?_
  obtain ⟨d, b⟩ := o
  obtain ⟨e, c⟩ := p
  cases d <;> cases e <;> first | exact False.elim h | skip
  obtain ⟨l, rfl, j, h1, h2, q⟩ := h
  obtain ⟨a, xs, rfl, s, r⟩ := opn_lstD ho rfl
  cases dpAll_ints _ _ r
  have hy := opn_int hp rfl
  subst hy
  refine ⟨_, _, rfl, a, _, _, j, .int _, rfl, rfl, s, rfl, ?_, by rw [List.getElem?_map, h1]; rfl, ?_, ?_, q_int q⟩
  · rw [List.all_map]
    exact List.all_eq_true.mpr fun _ _ => rfl
  · show (_ == _) = true
    simp
  · intro m z' hm hz
    rw [List.getElem?_map] at hz
    cases hl : l[m]? with
    | none => rw [hl] at hz; cases hz
    | some w =>
      rw [hl] at hz
      cases hz
      have := h2 m hm
      rw [hl] at this
      show (w == _) = false
      exact beq_eq_false_iff_ne.mpr fun e => this (congrArg some e)
/-- how often a text is in a text -/
def fCnt : F2 := fun o p Q => match o.1, p.1 with
  | .str a, .str b => Q (.int (Txt.count a b), .full)
  | _, _ => False
theorem sd_count {K} : SdN K (on2 fCnt) (fun xs H Q => ∃ x ys, xs = x :: ys ∧ (∃ a b, x = .str a ∧ ys = [V.str b] ∧ Q (.int (Txt.count a b)) H)) := by
  refine sdN2 (by intro o p Q Q' k h; obtain ⟨d, b⟩ := o; obtain ⟨e, c⟩ := p; cases d <;> cases e <;> first | exact False.elim h | exact k _ h) fun H M x y o p Q hM ho hp h => ?_
  obtain ⟨d, b⟩ := o
  obtain ⟨e, c⟩ := p
  cases d <;> cases e <;> first | exact False.elim h | skip
  exact ⟨_, _, rfl, _, _, opn_str ho rfl, by rw [opn_str hp rfl], q_int h⟩

/-! ### a look whose find may be lent -/
def rdJ (K : PySem.W.Frag) (F : Addr → Prop) (W : WK) : TE := fun σ H Q => ∃ ts A, Core K F ts σ H A ∧ W ts fun d => ∀ v H', (∀ b o, H b = some o → H' b = some o) → Rp K H' F v d → Q v H'
structure SJ (X : Cx) (e : Expr) (W : WK) : Prop where
  mo : MoK W
  run : ∀ F, PE X e (rdJ X.K F W)
theorem same_stay {H H' : Hp} {F : Addr → Prop} (s : ∀ b o, H b = some o → H' b = some o) : Stay H F H' F := fun b o e n => ⟨s b o e, n⟩
section
variable {X : Cx} {e a b : Expr} {es : List Expr} {pos : Pos} {W W' : WK}
theorem Core.look {K F ts σ H A} {i : Nat} {c : TVal} (k : Core K F ts σ H A) (e : ts[i]? = some (some c)) : ∃ v, σ[i]? = some (some v) ∧ Rp K H F v c.1 := by
  obtain ⟨v, B, h1, h2, h3⟩ := k.peek e
  exact ⟨v, h1, Ow.give _ _ _ _ h2 (fun a f => .inl f) fun a ha => k.dj a (h3 a ha)⟩
theorem sj_v (i : Nat) (h : PE X e (tVar i)) : SJ X e (kV i) := by
  refine ⟨fun ts Q Q' k ⟨c, e, q⟩ => ⟨c, e, k _ q⟩, fun F => pe_weak h ?_⟩
  rintro σ H Q ⟨ts, A, k, c, e, q⟩
  obtain ⟨v, h1, h2⟩ := k.look e
  exact ⟨v, h1, q v H (fun _ _ e => e) h2⟩
theorem sj_ix (ha : SJ X a W) (hb : SK X b W') (hs : PlainIx b) : SJ X (.Subscript a b pos) (kIx W W') := by
  refine ⟨fun _ _ _ k => ha.mo _ _ _ fun _ => hb.mo _ _ _ fun _ => fIxK_mo _ _ _ _ fun _ => k _, fun F => pe_weak (pe_ix ix_seq (ha.run F) (hb.run F) hs) ?_⟩
  rintro σ H Q ⟨ts, A, k, q⟩
  refine ⟨ts, A, k, ha.mo _ _ _ (fun d q v H1 s1 d1 => ?_) q⟩
  refine ⟨ts, A, core_same k s1, hb.mo _ _ _ (fun e q w H2 s2 d2 => ?_) q⟩
  have d1 := Rp.stay (same_stay s2) _ _ d1
  have ss : ∀ b o, H b = some o → H2 b = some o := fun b o e => s2 b o (s1 b o e)
  cases d <;> cases e <;> first | exact False.elim q | skip
  all_goals cases d2
  · obtain ⟨l, c, hc, q⟩ := q
    cases d1
    exact .inr (.inr ⟨_, _, c, rfl, rfl, l, hc, q _ H2 ss (.str _)⟩)
  · obtain ⟨d, h1, q⟩ := q
    cases d1 with
    | lst s r =>
      obtain ⟨j, g1, g2⟩ := atI_len h1 r.len
      obtain ⟨v, hv, rv⟩ := r.get j g1
      exact .inl ⟨_, _, _, v, rfl, rfl, s.sq, g2 v hv, q v H2 ss rv⟩
  · obtain ⟨d, h1, q⟩ := q
    cases d1 with
    | tup s r =>
      obtain ⟨j, g1, g2⟩ := atI_len h1 r.len
      obtain ⟨v, hv, rv⟩ := r.get j g1
      exact .inr (.inl ⟨_, _, _, v, rfl, rfl, s.sq, g2 v hv, q v H2 ss rv⟩)
/-! arguments, all of them looks -/
abbrev WJ := TSt → (List PyData → Prop) → Prop
def MoJ (W : WJ) : Prop := ∀ ts Q Q', (∀ c, Q c → Q' c) → W ts Q → W ts Q'
def rdJs (K : PySem.W.Frag) (F : Addr → Prop) (W : WJ) : TA := fun σ H Q => ∃ ts A, Core K F ts σ H A ∧ W ts fun ds => ∀ vs H', (∀ b o, H b = some o → H' b = some o) → RpAll K H' F vs ds → Q vs H'
structure SJs (X : Cx) (es : List Expr) (W : WJ) : Prop where
  mo : MoJ W
  run : ∀ F, PA X es (rdJs X.K F W)
def jNil : WJ := fun ts Q => Q []
def jCons (w : WK) (W : WJ) : WJ := fun ts Q => w ts fun d => W ts fun ds => Q (d :: ds)
theorem sjs_nil : SJs X [] jNil := ⟨fun _ _ _ k => k _, fun F => pa_weak pa_nil fun σ H Q ⟨ts, A, k, q⟩ => q [] H (fun _ _ e => e) .nil⟩
theorem sjs_cons {Wj : WJ} (ha : SJ X e W) (hb : SJs X es Wj) (hs : starEach (e :: es) X.env = (false, eval e X.env) :: starEach es X.env := by rfl) : SJs X (e :: es) (jCons W Wj) := by
  refine ⟨fun _ _ _ k => ha.mo _ _ _ fun _ => hb.mo _ _ _ fun _ => k _, fun F => pa_weak (pa_cons (ha.run F) (hb.run F) hs) ?_⟩
  rintro σ H Q ⟨ts, A, k, q⟩
  refine ⟨ts, A, k, ha.mo _ _ _ (fun d q v H1 s1 d1 => ?_) q⟩
  refine ⟨ts, A, core_same k s1, hb.mo _ _ _ (fun e q w H2 s2 d2 => ?_) q⟩
  exact q _ H2 (fun b o e => s2 b o (s1 b o e)) (.cons (Rp.stay (same_stay s2) _ _ d1) d2)
theorem owL_rp {K : PySem.W.Frag} {H : Hp} {M : Addr → Prop} : ∀ {ds : List PyData} {vs : List V}, RpAll K H M vs ds → OwL K H M vs (ds.map fun d => (d, Own.fz)) []
  | _, _, .nil => .nil
  | _, _, .cons h r => .cons (A := []) (B := []) (.fz h) (owL_rp r)
/-- f(e, ..), all of them looks; what is told is no part of what was lent -/
def eCallJ (S : FSpec) (W : WJ) : WE := fun ts Q => W ts fun ds => S (ds.map fun d => (d, Own.fz)) fun r _ => clean r = true ∧ Q r ts
theorem eCallJ_k {S : FSpec} {W : WJ} {ts : TSt} {Q : TVal → TSt → Prop} (h : ∀ K : TVal → TSt → Prop, K = Q → W ts fun ds => S (ds.map fun d => (d, Own.fz)) fun r _ => clean r = true ∧ K r ts) : eCallJ S W ts Q := h _ rfl
theorem callJ_pure {n : Nat} {S : FSpec} {σ : St} {Q : VK} {K F H vs ds ts1 A1 H0 A0} (mS : FSok n S) (k1 : Core K F ts1 σ H A1) (g1 : Chg A0 H0 A1 H) (r1 : RpAll K H F vs ds)
    (q : S (ds.map fun d => (d, Own.fz)) fun r _ => clean r = true ∧ contE K F σ H0 A0 Q r ts1) : spT K n [] S vs H Q E0 := by
  have w := owL_rp r1
  have kA : Core K F ((ds.map fun d => (d, Own.fz)).map some) (vs.map some) H [] := by
    refine ⟨List.nodup_nil, fun _ h => absurd h List.not_mem_nil, k1.fa, [], List.Perm.refl _, (w.stay (stay_less fun a x => ?_) fun _ _ => rfl).toS⟩
    exact x.elim id fun h => absurd h List.not_mem_nil
  refine ⟨w.len.trans (mS.len _ _ q), F, [], _, kA, mS.mo _ _ _ (fun r fins ⟨hc, q⟩ v H' A' B R => ?_) q⟩
  obtain ⟨_, rfl⟩ := R.fin.len0 rfl
  have hsame : ∀ b o, H b = some o → H' b = some o := fun b o e => R.chg.ext b o e List.not_mem_nil
  have hnew : ∀ a ∈ B, H a = none := fun a ha => (R.chg.sub a (by simpa using ha)).resolve_left List.not_mem_nil
  have nB : B.Nodup := by simpa using R.nd
  refine pure_contE k1 g1 q v H' B ⟨hsame, nB, hnew, Ow.anyC (fun b hb => ?_) R.ow hc⟩
  rcases hb with (hb | hb) | hb
  · exact .inl (.inl hb)
  · refine .inr ?_
    obtain ⟨xs, e⟩ := k1.there b hb
    exact ⟨xs, hsame b _ e⟩
  · exact .inl (.inr (by simpa using hb))
theorem se_callJ {k : Nat} {f : Addr} {fd : FuncData} {ps : List Str} {S : FSpec} {x : Str} {p : Pos} {W : WJ} (mS : FSok ps.length S) (Fk : FnOk X.prog X.w X.K X.mg X.base CX0 k f fd ps (spT X.K ps.length [] S)) (hr : Room k X.A) (hg : Gl X x) (hm : X.mg x = some (.ref f)) (hk : PySem.W.keepIn X.K (.ref f) = true) (hb : Binds X.K fd ps []) (ha : SJs X (e :: es) W)
    (hdb : (x == ("__debug__" : Str)) = false := by decide) (he : starEach (e :: es) X.env = (false, eval e X.env) :: starEach es X.env := by rfl) (hpl : (backTo pos (starEach es X.env)).any (·.1) = false := by rfl) : SE X (.Call (.Name x p) (e :: es) [] pos) (eCallJ S W) := by
  refine ⟨fun _ _ _ k => ha.mo _ _ _ fun _ => mS.mo _ _ _ fun _ _ ⟨c, q⟩ => ⟨c, k _ _ q⟩, fun F => pe_weak (pe_call Fk hr hg hm hk hb .nil pass0 (ha.run F) hdb he hpl) ?_⟩
  rintro σ H Q ⟨ts, A, k0, q⟩
  refine ⟨ts, A, k0, ha.mo _ _ _ (fun ds q vs H1 s1 r1 => ?_) q⟩
  show spT X.K ps.length [] S (vs ++ []) H1 Q E0
  rw [List.append_nil]
  obtain ⟨k1, g1, _⟩ := chg_same k0 s1
  exact callJ_pure mS k1 g1 r1 q
/-! a built-in type of what a look finds: list(x[0]) -/
theorem opn_look {K : PySem.W.Frag} {H : Hp} {F : Addr → Prop} {A : List Addr} {v : V} {d : PyData} (hM : ∀ a, (F a ∨ a ∈ A) → ∃ xs, H a = some (.lst xs)) (r : Rp K H F v d) : OpnR K H (fun a => F a ∨ a ∈ A) (d, flatK d) v := by
  refine ⟨Rp.dp _ _ r, fun h => ?_⟩
  cases r with
  | non => exact .non
  | bl b => exact .bl b
  | int i => exact .int i
  | str x => exact .str x
  | lst s r => exact ⟨_, _, rfl, s.1, dpAll_flat hM _ _ (RpAll.dp _ _ r) h⟩
  | tup s r => exact ⟨_, _, rfl, s.sq, dpAll_flat hM _ _ (RpAll.dp _ _ r) h⟩
def eN1J (h : FN) (W : WK) : WE := fun ts Q => W ts fun d => h [(d, flatK d)] fun r => Q r ts
theorem se_callTyJ {h : FN} {T : String} {x : Str} {p : Pos} {r} (hc : CallR X (.type T) r) (s : SdN X.K h r) (hg : Gl X x) (hm : X.mg x = none) (hv : bootBuiltins x = some (.type T)) (ha : SJ X e W) (hn : x ≠ "__name__" := by decide) (hdb : (x == ("__debug__" : Str)) = false := by decide)
    (he : starEach [e] X.env = (false, eval e X.env) :: starEach [] X.env := by rfl) (hpl : (backTo pos (starEach [] X.env)).any (·.1) = false := by rfl) : SE X (.Call (.Name x p) [e] [] pos) (eN1J h W) := by
  refine ⟨fun _ _ _ k => ha.mo _ _ _ fun _ => s.mo _ _ _ fun _ => k _ _, fun F => pe_weak (pe_callTy hc hg hm hv (pa_cons (ha.run F) pa_nil he) hn hdb he hpl) ?_⟩
  rintro σ H Q ⟨ts, A, k0, q⟩
  refine ⟨ts, A, k0, ha.mo _ _ _ (fun d q v H1 s1 r1 => ?_) q⟩
  obtain ⟨k1, g1, _⟩ := chg_same k0 s1
  exact s.run _ _ [v] [(d, flatK d)] _ k1.lists ⟨opn_look k1.lists r1, trivial⟩ (s.mo _ _ _ (fun c => pure_contE k1 g1) q)
/-! .. and list(x[e]), e any operand -/
def eIxN (h : FN) (i : Nat) (wb : WO) : WE := fun ts Q => (∃ c, ts[i]? = some (some c)) ∧ wb ts fun c2 ts2 => ∃ ds m z d, ts2[i]? = some (some (.list ds, m)) ∧ resP ts2 c2 (fun o => o.1 = .int z) ∧ atI ds z = some d ∧ h [(d, flatK d)] fun r => Q r ts2
theorem se_callTyIx {h : FN} {T : String} {x : Str} {i : Nat} {wb : WO} {p p2 : Pos} {r} (hc : CallR X (.type T) r) (s : SdN X.K h r) (hg : Gl X x) (hm : X.mg x = none) (hv : bootBuiltins x = some (.type T)) (ho : PE X a (tVar i)) (hb : SO X b wb) (hs : PlainIx b) (hn : x ≠ "__name__" := by decide) (hdb : (x == ("__debug__" : Str)) = false := by decide)
    (he : starEach [Expr.Subscript a b p2] X.env = (false, eval (Expr.Subscript a b p2) X.env) :: starEach [] X.env := by rfl) (hpl : (backTo pos (starEach [] X.env)).any (·.1) = false := by rfl) : SE X (.Call (.Name x p) [.Subscript a b p2] [] pos) (eIxN h i wb) := by
  refine ⟨fun _ _ _ k ⟨hc, q⟩ => ⟨hc, hb.mo _ _ _ (fun _ _ ⟨ds, m, z, d, e1, e2, e3, q⟩ => ⟨ds, m, z, d, e1, e2, e3, s.mo _ _ _ (fun _ => k _ _) q⟩) q⟩, fun F => pe_weak (pe_callTy hc hg hm hv (pa_cons (pe_ix ix_seq ho (hb.run F) hs) pa_nil he) hn hdb he hpl) ?_⟩
  rintro σ H Q ⟨ts, A, k0, ⟨c, e⟩, q⟩
  obtain ⟨v, h1, _⟩ := k0.look e
  refine ⟨v, h1, ts, A, k0, hb.mo _ _ _ (fun c2 ts2 ⟨ds, m, z, d, e1, e2, e3, q⟩ w H2 A2 k2 g2 r2 => ?_) q⟩
  obtain ⟨o, h3, ez⟩ := cap_res k2 r2 e2
  have hw := opn_int h3 ez
  obtain ⟨v', h1', r⟩ := k2.look e1
  rw [h1] at h1'
  cases h1'
  cases r with
  | lst sl r =>
    obtain ⟨j, g1, g2'⟩ := atI_len e3 r.len
    obtain ⟨u, hu, ru⟩ := r.get j g1
    exact .inl ⟨_, _, _, u, rfl, hw, sl.sq, g2' u hu, s.run _ _ [u] [(d, flatK d)] _ k2.lists ⟨opn_look k2.lists ru, trivial⟩ (s.mo _ _ _ (fun c => pure_contE k2 g2) q)⟩
end
/-! ### x[k].append(c) -/
theorem OwAll.upd {K : PySem.W.Frag} {H : Hp} {M : Addr → Prop} : ∀ {xs : List V} {ds : List PyData} {A : List Addr} (j : Nat) {es : List PyData}, OwAll K H M xs ds A → ds[j]? = some (.list es) →
    ∃ a ys, xs[j]? = some (.ref a) ∧ H a = some (.lst ys) ∧ ys.length = es.length ∧ a ∈ A ∧ ∀ (H' : Hp) (M' : Addr → Prop) (y : V) (c : PyData), A.Nodup → Stay H M H' M' → (∀ b ∈ A, b ≠ a → H' b = H b) → H' a = some (.lst (ys ++ [y])) → scalar c = true → Rp K H' M' y c → OwAll K H' M' xs (ds.set j (.list (es ++ [c]))) A
  | _, _, _, _, _, .nil, e => by simp at e
  | _, _, _, 0, es, .cons (vs := vs) (ds := ds) (A := A) (B := B) h r, e => by
    simp at e
    subst e
    cases h with
    | sc e2 _ => simp [scalar] at e2
    | @fullL a ys _ A0 h ri =>
      refine ⟨a, ys, rfl, h, OwAll.len ri, by simp, fun H' M' y c nd st hA ha sc ry => ?_⟩
      have nd' := List.nodup_append.mp nd
      have nl := List.nodup_cons.mp nd'.1
      have r1 := OwAll.stay st _ _ _ ri fun b hb => hA b (by simp [hb]) fun e => nl.1 (e ▸ hb)
      have r2 := OwAll.append r1 (.cons (B := []) (Ow.sc sc ry) .nil)
      rw [List.append_nil, List.append_nil] at r2
      refine .cons (.fullL ha r2) (OwAll.stay st _ _ _ r fun b hb => hA b (by simp [hb]) fun eq => nd'.2.2 a (by simp) b hb eq.symm)
  | _, _, _, j + 1, es, .cons (vs := vs) (ds := ds) (A := A) (B := B) h r, e => by
    obtain ⟨a, ys, h1, h2, h3, h4, h5⟩ := OwAll.upd j r (by simpa using e)
    refine ⟨a, ys, by simpa using h1, h2, h3, by simp [h4], fun H' M' y c nd st hA ha sc ry => ?_⟩
    have nd' := List.nodup_append.mp nd
    exact .cons (Ow.stay st _ _ _ _ h fun b hb => hA b (by simp [hb]) fun eq => nd'.2.2 b hb a h4 eq) (h5 H' M' y c nd'.2.1 st (fun b hb => hA b (by simp [hb])) ha sc ry)
def eAppJ (i : Nat) (Wk Wc : WK) : WE := fun ts Q => ∃ ds, ts[i]? = some (some (.list ds, .full)) ∧ Wk ts fun kd => ∃ (j : Nat), ∃ es : List PyData, kd = .int (j : Nat) ∧ ds[j]? = some (.list es) ∧ es.length < sizeLine ∧ Wc ts fun c => scalar c = true ∧ Q (.none, .full) (ts.set i (some (.list (ds.set j (.list (es ++ [c]))), .full)))
section
variable {X : Cx} {e a b : Expr} {apos cpos p2 : Pos} {Wk Wc : WK} {i : Nat}
theorem se_appJ (ho : PE X a (tVar i)) (hb : SK X b Wk) (hs2 : PlainIx b) (hc : SK X e Wc) (hbase : attributeBase (Expr.Subscript a b p2) "append" X.env (eval (Expr.Subscript a b p2) X.env) = eval (Expr.Subscript a b p2) X.env := by rfl)
    (hfew : ((backTo cpos (starEach [e] X.env)).all (fun x => !x.1) && (backToKw cpos (keywordEach [] X.env)).all (fun x => x.1.isSome) && decide ([e].length + ([] : List Keyword).length + (if ([] : List Keyword).isEmpty then 0 else 1) < 30)) = true := by rfl)
    (hline : (apos.endLine == cpos.line) = true := by rfl) (hs : starEach [e] X.env = (false, eval e X.env) :: starEach [] X.env := by rfl) (hplain : (backTo cpos (starEach [] X.env)).any (·.1) = false := by rfl) : SE X (.Call (.Attribute (.Subscript a b p2) "append" apos) [e] [] cpos) (eAppJ i Wk Wc) := by
  refine ⟨fun _ _ _ k ⟨ds, e, q⟩ => ⟨ds, e, hb.mo _ _ _ (fun _ ⟨j, es, e1, e2, l, q⟩ => ⟨j, es, e1, e2, l, hc.mo _ _ _ (fun _ ⟨s, q⟩ => ⟨s, k _ _ q⟩) q⟩) q⟩, fun F => pe_weak (pe_bm PySem.F.plainAttrs_list PySem.F.slot_list_append PySem.F.type_list_append mt_append (pe_ix ix_seq ho (hb.run F) hs2) (pa_cons (hc.run F) pa_nil hs) hbase hfew hline hs hplain) ?_⟩
  rintro σ H Q ⟨ts, A, k0, ds, e, q⟩
  obtain ⟨v, B, A2, h1, h2, hp, k2, nb, fb⟩ := k0.take e
  cases h2 with
  | sc e _ => simp [scalar] at e
  | @fullL l xs _ Bk hl rk =>
    refine ⟨.ref l, h1, ts, A, k0, hb.mo _ _ _ (fun kd ⟨j, es, ek, ed, hlen, q⟩ w H1 s1 d1 => ?_) q⟩
    subst ek
    cases d1
    obtain ⟨a, ys, g1, g2, g3, g4, g5⟩ := OwAll.upd j rk ed
    have hj : atI xs (j : Int) = some (.ref a) := by
      have hjl : j < xs.length := (List.getElem?_eq_some_iff.mp g1).1
      rw [atI_nat']
      exact g1
    refine .inl ⟨l, xs, _, .ref a, rfl, rfl, .inl (.inl (s1 _ _ hl)), hj, .inl ⟨rfl, ys, .inl (.inl (s1 _ _ g2))⟩, ts, A, core_same k0 s1, hc.mo _ _ _ (fun c ⟨sc, q⟩ y H2 s2 d2 => ?_) q⟩
    have ss : ∀ b o, H b = some o → H2 b = some o := fun b o e => s2 b o (s1 b o e)
    refine ⟨a, ys, y, rfl, rfl, ss _ _ g2, by rw [g3]; exact hlen, ?_⟩
    obtain ⟨k3, gg, _⟩ := chg_same k0 ss
    obtain ⟨k4, _, _⟩ := chg_same k2 ss
    have hB : (l :: Bk).Nodup := nb
    have ry : Rp X.K (upd H2 a (.lst (ys ++ [y]))) (fun b => F b ∨ b ∈ (l :: Bk) ++ A2) y c := by
      cases d2 with
      | non => exact .non
      | bl b => exact .bl b
      | int i => exact .int i
      | str x => exact .str x
      | lst _ _ => simp [scalar] at sc
      | tup _ _ => simp [scalar] at sc
    have aB : a ∈ l :: Bk := List.mem_cons_of_mem _ g4
    have aA : a ∈ A := hp.mem_iff.mpr (List.mem_append_left _ aB)
    have al : l ≠ a := fun e => (List.nodup_cons.mp hB).1 (e ▸ g4)
    have rk2 := g5 (upd H2 a (.lst (ys ++ [y]))) (fun b => F b ∨ b ∈ (l :: Bk) ++ A2) y c (List.nodup_cons.mp hB).2 (fun b o e n => by
      refine ⟨upd_at (ss b o e) fun h => n (.inr (h ▸ aA)), fun x => n (x.imp id fun h => hp.mem_iff.mpr h)⟩) (fun b hb hne => by
      obtain ⟨z, ez⟩ := OwAll.there _ _ _ rk b hb
      rw [upd_ne hne, ez, ss _ _ ez]) upd_same sc ry
    have k30 : Core X.K (fun a => F a ∨ a ∈ ([] : List Addr)) ts σ H2 A := by
      have e0 : (fun a => F a ∨ a ∈ ([] : List Addr)) = F := by funext a; simp
      rw [e0]; exact k3
    have k40 : Core X.K (fun b => (F b ∨ b ∈ ([] : List Addr)) ∨ b ∈ l :: Bk) (ts.set i none) σ H2 A2 := by
      have e0 : (fun b => (F b ∨ b ∈ ([] : List Addr)) ∨ b ∈ l :: Bk) = fun b => F b ∨ b ∈ l :: Bk := by funext a; simp
      rw [e0]; exact k4
    obtain ⟨A', k5, sub, g6⟩ := write_back (c' := (.list (ds.set j (.list (es ++ [c]))), .full)) k30 List.nodup_nil (fun _ h => absurd h List.not_mem_nil) e h1 hp k40 (H' := upd H2 a (.lst (ys ++ [y]))) (B' := l :: Bk) (fun b o e n => upd_at e fun h => n (h ▸ aB)) (fun a ha => .inl ha) hB
      (.fullL (by rw [upd_ne al]; exact ss _ _ hl) rk2)
    rw [List.append_nil] at g6
    exact pure_contE k5 (gg.trans g6) q .non _ [] (.of_sc rfl .non)
end
end TV
end
set_option Elab.async false
set_option linter.all false
set_option maxRecDepth 100000
set_option maxHeartbeats 1000000
/-! Part 20: sorting tuples of numbers. -/
section
namespace TV
open PySem PySem.Spec L2 PyProof.Rows
/-! ### the order -/
abbrev lex (a b : List Int) : Bool := HT.lexLt a b
theorem lex_asym : ∀ a b : List Int, lex a b = true → lex b a = false
  | [], [], h => by cases h
  | [], _ :: _, _ => rfl
  | _ :: _, [], h => by cases h
  | x :: a, y :: b, h => by
    unfold lex at h ⊢
    rw [HT.lexLt_cons] at h ⊢
    by_cases e : x = y
    · subst e
      rw [if_pos rfl] at h ⊢
      exact lex_asym a b h
    · rw [if_neg e] at h
      rw [if_neg (fun z => e z.symm)]
      have := of_decide_eq_true h
      exact decide_eq_false (by omega)
theorem lex_tr : ∀ a b c : List Int, lex b a = false → lex c b = false → lex c a = false
  | [], [], [], _, _ => rfl
  | [], [], _ :: _, _, h => by cases h; rfl
  | [], _ :: _, [], h, _ => by cases h; rfl
  | [], _ :: _, _ :: _, h, _ => rfl
  | _ :: _, [], [], h, _ => by cases h
  | _ :: _, [], _ :: _, h, _ => by cases h
  | _ :: _, _ :: _, [], _, h => by cases h
  | x :: a, y :: b, z :: c, h1, h2 => by
    unfold lex at h1 h2 ⊢
    rw [HT.lexLt_cons] at h1 h2 ⊢
    by_cases e1 : y = x
    · subst e1
      rw [if_pos rfl] at h1
      by_cases e2 : z = y
      · subst e2
        rw [if_pos rfl] at h2 ⊢
        exact lex_tr a b c h1 h2
      · rw [if_neg e2] at h2 ⊢
        exact h2
    · rw [if_neg e1] at h1
      have g1 := of_decide_eq_false h1
      by_cases e2 : z = y
      · subst e2
        rw [if_neg e1]
        exact h1
      · rw [if_neg e2] at h2
        have g2 := of_decide_eq_false h2
        rw [if_neg (by omega)]
        exact decide_eq_false (by omega)
theorem lex_tot : ∀ a b : List Int, lex a b = false → lex b a = false → a = b
  | [], [], _, _ => rfl
  | [], _ :: _, h, _ => by cases h
  | _ :: _, [], _, h => by cases h
  | x :: a, y :: b, h1, h2 => by
    unfold lex at h1 h2
    rw [HT.lexLt_cons] at h1 h2
    by_cases e : x = y
    · subst e
      rw [if_pos rfl] at h1 h2
      rw [lex_tot a b h1 h2]
    · rw [if_neg e] at h1
      rw [if_neg (fun z => e z.symm)] at h2
      have := of_decide_eq_false h1
      have := of_decide_eq_false h2
      omega
theorem swo_lexk (k : Value → List Int) : SrtO.Swo fun v u => lex (k v) (k u) := ⟨fun x y h => lex_asym _ _ h, fun x y z h1 h2 => lex_tr _ _ _ h1 h2⟩
/-- v is a tuple of these numbers -/
def IsInts (h : Heap) (v : Value) (ns : List Int) : Prop := ∃ a o its n, v = .ref a ∧ h.get? a = some o ∧ o.cls = .type "tuple" ∧ o.data = .seq its n ∧ IntsAre its.toList ns
theorem intsAre_uniq : ∀ {vs : List Value} {ns ms : List Int}, IntsAre vs ns → IntsAre vs ms → ns = ms
  | _, _, _, .nil, .nil => rfl
  | _, _, _, .cons n t h, .cons _ _ g => by rw [intsAre_uniq h g]
theorem IsInts.uniq {h : Heap} {v : Value} {ns ms : List Int} (a : IsInts h v ns) (b : IsInts h v ms) : ns = ms := by
  obtain ⟨a, o, its, n, e, ho, hc, hd, hi⟩ := a
  obtain ⟨a', o', its', n', e', ho', hc', hd', hi'⟩ := b
  subst e
  cases e'
  rw [ho] at ho'; cases ho'
  rw [hd] at hd'; cases hd'
  exact intsAre_uniq hi hi'
section
variable {prog : Program} {w : World} {A : Around} {E : Value → Shared → Prop} {s : Shared} {Q : Bool → Shared → Prop} {M : Model}
theorem kat_ints {b : Bool} {xs ys : List Value} {ns ms : List Int} (i : Nat) (hx : IntsAre xs ns) (hy : IntsAre ys ms) {fin : Bool} (hf : fin = decide (ns.length < ms.length)) (h : Q (lex ns ms) s) : PySem.W.KatLex prog w A b fin Q (xs.zip ys) i s := by
  induction hx generalizing ys ms i with
  | nil =>
    subst hf
    cases hy with
    | nil => exact PySem.W.kat_nil h
    | cons q u hy => exact PySem.W.kat_nil (by simpa [lex, HT.lexLt] using h)
  | @cons p t xs ns hx ih =>
    cases hy with
    | nil =>
      subst hf
      exact PySem.W.kat_nil (by simpa [lex, HT.lexLt] using h)
    | @cons q u ys ms hy =>
      show PySem.W.KatLex prog w A b fin Q ((Value.int p t, Value.int q u) :: xs.zip ys) i s
      have h : Q (if p = q then lex ns ms else decide (p < q)) s := h
      refine PySem.W.kat_cons (wpAny_eqBool_int ?_)
      by_cases e : p = q
      · subst e
        rw [beq_self_eq_true]
        rw [if_pos rfl] at h
        refine PySem.W.kat_yes (ih (i + 1) hy ?_ h)
        rw [hf]
        simp
      · rw [show (p == q) = false from beq_eq_false_iff_ne.mpr e]
        rw [if_neg e] at h
        exact PySem.W.kat_no (TS.oneLt_ints _ h)

theorem ints_cmp {vs : List Value} {k : Value → List Int} (hp : ∀ v ∈ vs, IsInts s.heap v (k v)) : SrtO.Cmp prog w A s (tuples' true) (fun p => p.1 ∈ vs) (SrtO.lt2 fun v u => lex (k v) (k u)) := by
  intro p q hm hm'
  have h1 := hp _ hm
  have h2 := hp _ hm'
  show wpAny (model prog w) A (keyLt' (tuples' true) p.1 q.1) (fun r s' => s' = s ∧ r = lex (k p.1) (k q.1)) (fun _ _ => False) s
  generalize k p.1 = x at h1 ⊢
  generalize k q.1 = y at h2 ⊢
  obtain ⟨a, o, its, n, e, ho, hc, hd, hi⟩ := h1
  obtain ⟨a', o', its', n', e', ho', hc', hd', hi'⟩ := h2
  rw [e, e']
  refine PySem.W.kat_lt ho hd ho' hd' ?_
  refine kat_ints 0 hi hi' ?_ ⟨rfl, rfl⟩
  have e1 : its.size = x.length := by have := hi.length; simpa using this
  have e2 : its'.size = y.length := by have := hi'.length; simpa using this
  rw [e1, e2]
theorem firsts_ints {h : Heap} : ∀ {vs : List Value}, (∀ v ∈ vs, ∃ ns, IsInts h v ns ∧ ns ≠ []) → ∃ fs : List Value, PySem.W.KatTups h vs fs ∧ fs.length = vs.length ∧ ∀ f ∈ fs, ∃ x t, f = Value.int x t
  | [], _ => ⟨[], PySem.W.KatTups.nil, rfl, fun _ hm => by simp at hm⟩
  | v :: vs, hp => by
    obtain ⟨fs, h1, h2, h3⟩ := firsts_ints (vs := vs) fun v' hm => hp v' (List.mem_cons_of_mem _ hm)
    obtain ⟨ns, ⟨a, o, its, n, e, ho, hc, hd, hi⟩, hne⟩ := hp v (List.mem_cons_self ..)
    subst e
    obtain ⟨its⟩ := its
    simp only at hi
    cases hi with
    | nil => exact absurd rfl hne
    | @cons x t us ns hi =>
      refine ⟨.int x t :: fs, PySem.W.KatTups.cons ho hc hd rfl h1, by rw [List.length_cons, List.length_cons, h2], fun f hm => ?_⟩
      rcases List.mem_cons.mp hm with rfl | hm
      · exact ⟨x, t, rfl⟩
      · exact h3 f hm
theorem IsInts.keeps {h h' : Heap} {v : Value} {ns : List Int} (x : IsInts h v ns) (k : ∀ b o, h.get? b = some o → o.cls = .type "tuple" → h'.get? b = some o) : IsInts h' v ns := by
  obtain ⟨a, o, its, n, e, ho, hc, hd, hi⟩ := x
  exact ⟨a, o, its, n, e, k a o ho hc, hc, hd, hi⟩
theorem ints_sortable {a : Addr} {vs : List Value} {k : Value → List Int} (h0 : 0 < vs.length) (hp : ∀ v ∈ vs, IsInts s.heap v (k v)) (hn : ∀ v ∈ vs, k v ≠ []) (ha : ∀ o, s.heap.get? a = some o → o.cls ≠ .type "tuple") : SrtO.SortableO prog w A s a vs fun v u => lex (k v) (k u) := by
  intro h' keep
  have hp' : ∀ v ∈ vs, IsInts h' v (k v) := fun v hm => (hp v hm).keeps fun b o e c => keep b o (fun z => by subst z; exact ha o e c) e
  obtain ⟨fs, h1, h2, h3⟩ := firsts_ints fun v hm => ⟨_, hp' v hm, hn v hm⟩
  refine ⟨tuples' true, fun Q E hq => ?_, ints_cmp hp'⟩
  refine PySem.W.kat_kind (T := .type "int") h1 (by omega) (fun f hm => ?_) (by rfl) ?_
  · obtain ⟨x, t, rfl⟩ := h3 f hm
    exact PySem.W.Looks.now
  · have e : (Value.type "int" != Value.type "tuple") = true := by first | decide +kernel | rfl | decide
    rw [e]
    exact hq
theorem sorted_intsO {l : Addr} {vs : List Value} {k : Value → List Int} {Q : Value → Shared → Prop} (hl : s.heap.IsList l vs.toArray) (hz : vs.length ≤ sizeLine) (hp : ∀ v ∈ vs, IsInts s.heap v (k v)) (hn : ∀ v ∈ vs, k v ≠ [])
    (h : ∀ (h' : Heap) (d : Addr) (out : List Value), SrtO.Srtd (fun v u => lex (k v) (k u)) out → SrtO.Stb (fun v u => lex (k v) (k u)) out vs → (∀ b o, s.heap.get? b = some o → h'.get? b = some o) → s.heap.objs.size ≤ d → (∃ n, h'.get? d = some (seqObj "list" out.toArray n)) → Q (.ref d) { s with heap := h' }) :
    wpAny (model prog w) A (call (.builtin "sorted") [.ref l]) Q E s := by
  refine SrtO.sorted_ord (swo_lexk k) hl hz (fun h2 h₁ a ha kk => ?_) fun out hs hb => ?_
  · refine ints_sortable (s := { s with heap := h₁ }) (by omega) (fun v hm => (hp v hm).keeps fun b o e _ => (kk b o e).2) hn fun o e => ?_
    have e' : some o = some (seqObj "list" vs.toArray 0) := e.symm.trans ha
    cases e'
    intro c
    exact absurd (Value.type.inj c) (by decide)
  · exact h _ _ out hs hb (fun b o e => sortedAll_old e) (Nat.le_succ _) (sortedAll_at s.heap vs out.toArray)
end
/-! ### the rule -/
def rSortedTI (K : PySem.W.Frag) : List V → Hp → VK → Prop := fun vs H Q => ∃ (a : Addr) (xs : List V) (L : List (List Int)), vs = [V.ref a] ∧ SqL K H a xs ∧ L.length = xs.length ∧ (∀ ns ∈ L, ns ≠ []) ∧
  (∀ (i : Nat) x ns, xs[i]? = some x → L[i]? = some ns → ∃ t, x = V.ref t ∧ SqT K H t (ns.map V.int)) ∧
  ∀ (ys : List V) (L' : List (List Int)) p, ys.Perm xs → L'.Perm L → L'.Pairwise (fun a b => lex b a = false) → ys.length = L'.length → (∀ (i : Nat) y ns, ys[i]? = some y → L'[i]? = some ns → ∃ j : Nat, xs[j]? = some y ∧ L[j]? = some ns) → H p = none → Q (.ref p) (upd H p (.lst ys))
theorem vals_ints : ∀ {ns : List Int} {us : List Value}, Vals (ns.map V.int) us → IntsAre us ns
  | [], _, .nil => .nil
  | n :: ns, _, .cons r t => by
    obtain ⟨tk, rfl⟩ := r
    exact .cons n tk (vals_ints t)
theorem cr_sortedTI {X : Cx} : CallR X (.builtin "sorted") (rSortedTI X.K) := by
  intro pins s σ H vs us Q I r h
  obtain ⟨a, xs, L, rfl, hs, hL, hne, hx, q⟩ := h
  obtain ⟨its, rv, hl, hz⟩ := I.list hs
  obtain ⟨u, rfl, ru⟩ := vals1 r
  obtain rfl : u = Value.ref a := ru
  have hlen := rv.length
  obtain ⟨e1, e2⟩ := refs_back rv fun x m => by
    obtain ⟨i, hi⟩ := List.getElem?_of_mem m
    obtain ⟨hi2, _⟩ := List.getElem?_eq_some_iff.mp hi
    obtain ⟨t, e, _⟩ := hx i x L[i] hi (List.getElem?_eq_getElem (by omega))
    exact ⟨t, e⟩
  -- what each value is
  have isI : ∀ (i : Nat) v ns, its[i]? = some v → L[i]? = some ns → IsInts s.heap v ns := by
    intro i v ns hv hn
    have hx' : xs[i]? = some (backV v) := by rw [e1, List.getElem?_map, hv]; rfl
    obtain ⟨t, et, hq⟩ := hx i _ _ hx' hn
    obtain ⟨t2, rfl⟩ := e2 v (List.mem_of_getElem? hv)
    cases et
    obtain ⟨its2, r2, ⟨o, ho, hc, n, hd⟩, _⟩ := I.tuple hq
    exact ⟨_, o, its2.toArray, n, rfl, ho, hc, hd, by simpa using vals_ints r2⟩
  classical
  let k : Value → List Int := fun v => if h : ∃ ns, IsInts s.heap v ns then Classical.choose h else []
  have kis : ∀ (i : Nat) v ns, its[i]? = some v → L[i]? = some ns → k v = ns := by
    intro i v ns hv hn
    have h := isI i v ns hv hn
    have hex : ∃ ns, IsInts s.heap v ns := ⟨_, h⟩
    show (if h : ∃ ns, IsInts s.heap v ns then Classical.choose h else []) = ns
    rw [dif_pos hex]
    exact (Classical.choose_spec hex).uniq h
  have at_ : ∀ v ∈ its, ∃ i ns, its[i]? = some v ∧ L[i]? = some ns := fun v hv => by
    obtain ⟨i, hi⟩ := List.getElem?_of_mem hv
    obtain ⟨hi2, _⟩ := List.getElem?_eq_some_iff.mp hi
    exact ⟨i, _, hi, List.getElem?_eq_getElem (by omega)⟩
  refine sorted_intsO (k := k) hl.isList (by rw [← rv.length]; exact hz) (fun v hv => ?_) (fun v hv => ?_) fun h' d out h1 h2 kp hd hn => ?_
  · obtain ⟨i, ns, hi, hn⟩ := at_ v hv
    rw [kis i v ns hi hn]
    exact isI i v ns hi hn
  · obtain ⟨i, ns, hi, hn⟩ := at_ v hv
    rw [kis i v ns hi hn]
    exact hne ns (List.mem_of_getElem? hn)
  · have h3 : ∀ u ∈ out, ∃ a, u = Value.ref a := fun u hu => e2 u (h2.perm.mem_iff.mp hu)
    obtain ⟨n, hn⟩ := hn
    have hLk : L = its.map k := by
      apply List.ext_getElem?
      intro i
      by_cases hi : i < its.length
      · rw [List.getElem?_map, List.getElem?_eq_getElem hi, List.getElem?_eq_getElem (show i < L.length by omega)]
        exact congrArg some (kis i _ _ (List.getElem?_eq_getElem hi) (List.getElem?_eq_getElem (show i < L.length by omega))).symm
      · rw [List.getElem?_eq_none (by omega), List.getElem?_eq_none (by rw [List.length_map]; omega)]
    have hp2 : (out.map backV).Perm xs := by rw [e1]; exact h2.perm.map backV
    refine ⟨.ref d, upd H d (.lst (out.map backV)), I.laid (t' := s.toks) kp hd ⟨?_, out, n, vals_back h3, hn⟩, rfl, q (out.map backV) (out.map k) d hp2 ?_ ?_ ?_ ?_ (I.hok.fresh hd)⟩
    · rw [hp2.length_eq]
      exact hz
    · rw [hLk]; exact h2.perm.map k
    · rw [List.pairwise_map]
      exact h1
    · rw [List.length_map, List.length_map]
    · intro i y ns hy hn
      rw [List.getElem?_map] at hy hn
      cases ho : out[i]? with
      | none => rw [ho] at hy; cases hy
      | some v =>
        rw [ho] at hy hn
        cases hy
        cases hn
        obtain ⟨j, ms, hj, hm⟩ := at_ v (h2.perm.mem_iff.mp (List.mem_of_getElem? ho))
        refine ⟨j, by rw [e1, List.getElem?_map, hj]; rfl, ?_⟩
        rw [kis j v ms hj hm]
        exact hm
def tupI (ns : List Int) : PyData := .tuple (ns.map .int)
def fSortT : F1 := fun o Q => match o.1 with
  | .list ds => ∃ L : List (List Int), ds = L.map tupI ∧ (∀ ns ∈ L, ns ≠ []) ∧ ∀ L' : List (List Int), L'.Perm L → L'.Pairwise (fun a b => lex b a = false) → Q (.list (L'.map tupI), .full)
  | _ => False
theorem nl_tupI (ns : List Int) : noList (tupI ns) = true := noLists_ints ns
theorem nl_tupIs : ∀ L : List (List Int), noLists (L.map tupI) = true
  | [] => rfl
  | n :: ns => by show (noList (tupI n) && noLists (ns.map tupI)) = true; rw [nl_tupI, nl_tupIs ns]; rfl
theorem plain_tupI (ns : List Int) : PyData.plain (tupI ns) = true := plain_ints ns
theorem plain_tupIs : ∀ L : List (List Int), PyData.plainAll (L.map tupI) = true
  | [] => rfl
  | n :: ns => by show (PyData.plain (tupI n) && PyData.plainAll (ns.map tupI)) = true; rw [plain_tupI, plain_tupIs ns]; rfl
theorem depth_tupI (ns : List Int) : PyData.depth (tupI ns) ≤ 1 := by show PyData.depthAll (ns.map PyData.int) + 1 ≤ 1; rw [depthAll_ints]; decide
theorem depth_tupIs : ∀ L : List (List Int), PyData.depthAll (L.map tupI) ≤ 1
  | [] => Nat.zero_le _
  | n :: ns => by
    show max (PyData.depth (tupI n)) (PyData.depthAll (ns.map tupI)) ≤ 1
    exact Nat.max_le.mpr ⟨depth_tupI n, depth_tupIs ns⟩
theorem mkL_tupIs (L : List (List Int)) : mkL .full (L.map tupI) = .full := if_pos ⟨rfl, nl_tupIs L⟩
theorem rpAll_of {K : PySem.W.Frag} {H : Hp} {M : Addr → Prop} : ∀ {vs : List V} {ds : List PyData}, vs.length = ds.length → (∀ (i : Nat) v d, vs[i]? = some v → ds[i]? = some d → Rp K H M v d) → RpAll K H M vs ds
  | [], [], _, _ => .nil
  | [], _ :: _, h, _ => by simp at h
  | _ :: _, [], h, _ => by simp at h
  | v :: vs, d :: ds, h, k => .cons (k 0 v d rfl rfl) (rpAll_of (by simpa using h) fun i v d h1 h2 => k (i + 1) v d (by simpa using h1) (by simpa using h2))
theorem sd_sortT {K} : SdN K (on1 fSortT) (rSortedTI K) := by
  refine sdN1 (fun o Q Q' k h => ?_) fun H M x o Q hM ho h => ?_
  · obtain ⟨d, b⟩ := o
    cases d <;> first | exact False.elim h | skip
    obtain ⟨L, e, h1, h2⟩ := h
    exact ⟨L, e, h1, fun L' a b => k _ (h2 L' a b)⟩
  · obtain ⟨d, b⟩ := o
    cases d <;> first | exact False.elim h | skip
    obtain ⟨L, e, h1, q⟩ := h
    subst e
    obtain ⟨a, xs, rfl, s, r⟩ := opn_lstD ho rfl
    have hl := dpAll_len r
    rw [List.length_map] at hl
    refine ⟨a, xs, L, rfl, s, hl.symm, h1, fun i x ns hx hn => ?_, fun ys L' p p1 p2 p3 p4 p5 hp => ?_⟩
    · obtain ⟨v, hv, hd⟩ := dpAll_get (d := tupI ns) i r (by rw [List.getElem?_map, hn]; rfl)
      rw [hx] at hv
      cases hv
      unfold tupI at hd
      cases hd with
      | tup sq ra =>
        rw [dpAll_ints _ _ ra] at sq
        exact ⟨_, rfl, sq⟩
    · refine q_lst (q L' p2 p3) (rpAll_of (by rw [List.length_map]; exact p4) fun i y d hy hd => ?_) (.inl (mkL_tupIs L').symm) hp
      rw [List.getElem?_map] at hd
      cases hn : L'[i]? with
      | none => rw [hn] at hd; cases hd
      | some ns =>
        rw [hn] at hd
        cases hd
        obtain ⟨j, hj, hm⟩ := p5 i y ns hy hn
        obtain ⟨v, hv, hd⟩ := dpAll_get (d := tupI ns) j r (by rw [List.getElem?_map, hm]; rfl)
        rw [hj] at hv
        cases hv
        exact dp_flat hM _ _ hd (nl_tupI ns)
/-! ### joining, padding -/
def strsOf : List PyData → Option (List Str)
  | [] => some []
  | .str i :: ds => (strsOf ds).map (i :: ·)
  | _ :: _ => none
theorem strsOf_map : ∀ ns : List Str, strsOf (ns.map PyData.str) = some ns
  | [] => rfl
  | n :: ns => by show (strsOf (ns.map PyData.str)).map (n :: ·) = _; rw [strsOf_map ns]; rfl
theorem strsOf_eq : ∀ {ds : List PyData} {ns : List Str}, strsOf ds = some ns → ds = ns.map PyData.str
  | [], ns, e => by cases e; rfl
  | .str i :: ds, ns, e => by
    cases h : strsOf ds with
    | none => rw [strsOf, h] at e; cases e
    | some ms => rw [strsOf, h] at e; cases e; rw [strsOf_eq h]; rfl
  | .none :: _, _, e => by cases e
  | .bool _ :: _, _, e => by cases e
  | .int _ :: _, _, e => by cases e
  | .list _ :: _, _, e => by cases e
  | .tuple _ :: _, _, e => by cases e
  | .dict _ :: _, _, e => by cases e
theorem dpAll_strs {K H} : ∀ (l : List Str) (xs : List V), DpAll K H xs (l.map PyData.str) → xs = l.map V.str
  | [], _, .nil => rfl
  | i :: l, _, .cons h r => by
    cases h
    rw [dpAll_strs l _ r]
    rfl
def fJoin : F2 := fun o p Q => match o.1, p.1 with
  | .str a, .list ds => ∃ ys, strsOf ds = some ys ∧ (ys.map (·.length)).sum + ys.length * a.length ≤ 16777216 ∧ Q (.str (Txt.join a ys), .full)
  | _, _ => False
theorem sd_join {K} : SdN K (on2 fJoin) (fun xs H Q => ∃ x ys, xs = x :: ys ∧ (∃ a p, ∃ zs : List Str, x = .str a ∧ ys = [.ref p] ∧ (SqL K H p (zs.map V.str) ∨ SqT K H p (zs.map V.str)) ∧ (zs.map (·.length)).sum + zs.length * a.length ≤ 16777216 ∧ Q (.str (Txt.join a zs)) H)) := by
  refine sdN2 (by intro o p Q Q' k h; obtain ⟨d, b⟩ := o; obtain ⟨e, c⟩ := p; cases d <;> cases e <;> first | exact False.elim h | exact h.imp fun _ h => ⟨h.1, h.2.1, k _ h.2.2⟩) fun H M x y o p Q hM ho hp h => ?_
  obtain ⟨d, b⟩ := o
  obtain ⟨e, c⟩ := p
  cases d <;> cases e <;> first | exact False.elim h | skip
  obtain ⟨zs, ez, hz, q⟩ := h
  obtain ⟨a, xs, rfl, s, r⟩ := opn_lstD hp rfl
  rw [strsOf_eq ez] at r
  rw [dpAll_strs _ _ r] at s
  exact ⟨_, _, rfl, _, a, zs, opn_str ho rfl, rfl, .inl s, hz, q_str q⟩
def fRjust : F2 := fun o p Q => match o.1, p.1 with
  | .str a, .int i => PadOk i = true ∧ Q (.str (Txt.rjust a i), .full)
  | _, _ => False
theorem sd_rjust {K} : SdN K (on2 fRjust) (fun xs H Q => ∃ x ys, xs = x :: ys ∧ (∃ (a : Str) (i : Int), x = .str a ∧ ys = [.int i] ∧ PadOk i = true ∧ Q (.str (Txt.rjust a i)) H)) := by
  refine sdN2 (by intro o p Q Q' k h; obtain ⟨d, b⟩ := o; obtain ⟨e, c⟩ := p; cases d <;> cases e <;> first | exact False.elim h | exact ⟨h.1, k _ h.2⟩) fun H M x y o p Q hM ho hp h => ?_
  obtain ⟨d, b⟩ := o
  obtain ⟨e, c⟩ := p
  cases d <;> cases e <;> first | exact False.elim h | skip
  exact ⟨_, _, rfl, _, _, opn_str ho rfl, by rw [opn_int hp rfl], h.1, q_str h.2⟩
end TV
end
set_option Elab.async false
set_option linter.all false
set_option maxRecDepth 100000
set_option maxHeartbeats 1000000
/-! Part 21: chains of three comparisons; comprehensions of two clauses. -/
section
namespace TV
open PySem PySem.Spec L2
open PyProof.Rows (envOfC Compare_chain isTrue_chain chain_link chain_last test_link test_last)
section
variable {X : Cx} {a b c d : Expr} {ta tb tc td : TE} {pos : Pos}
def tChain3 (r r' r'' : R2) (ta tb tc td : TE) : TE := fun σ H Q => ta σ H fun x H1 => tb σ H1 fun y H2 => r x y H2 fun z H3 => ∃ k, z = .bl k ∧
  (if k = true then tc σ H3 fun w H4 => r' y w H4 fun z H5 => ∃ k, z = .bl k ∧ (if k = true then td σ H5 fun u H6 => r'' w u H6 Q else Q (.bl false) H5) else Q (.bl false) H3)
theorem pe_chain3 {op op' op'' : CmpOp} {r r' r'' : R2} (ho : OpR X (compareOp op) r) (ho' : OpR X (compareOp op') r') (ho'' : OpR X (compareOp op'') r'') (ha : PE X a ta) (hb : PE X b tb) (hc : PE X c tc) (hd : PE X d td)
    (hm : lastMarks [op, op', op''] [b, c, d] = false := by with_unfolding_all rfl) : PE X (.Compare a [op, op', op''] [b, c, d] pos) (tChain3 r r' r'' ta tb tc td) := by
  refine ⟨fun pins s σ H Q I h => ?_⟩
  refine Compare_chain (thn (ha.run pins s σ H _ I h) fun v s1 ⟨x, H1, I1, r1, q1⟩ => chain_link (thn (hb.run pins s1 σ H1 _ I1 q1) fun u s2 ⟨y, H2, I2, r2, q2⟩ =>
    thn (ho pins s2 σ H2 x y v u _ I2 r1 r2 q2) fun e s3 ⟨z, H3, I3, r3, k, ez, q3⟩ => ?_)) hm
  subst ez
  cases r3
  refine wpAny_truthy_bool ?_
  cases k with
  | false => exact PyProof.Rows.ite_ff ⟨.bl false, H3, I3, rfl, q3⟩
  | true =>
    refine PyProof.Rows.ite_tt (chain_link (thn (hc.run pins s3 σ H3 _ I3 q3) fun w' s4 ⟨z', H4, I4, r4, q4⟩ => thn (ho' pins s4 σ H4 y z' u w' _ I4 r2 r4 q4) fun e s5 ⟨z2, H5, I5, r5, k2, ez2, q5⟩ => ?_))
    subst ez2
    cases r5
    refine wpAny_truthy_bool ?_
    cases k2 with
    | false => exact PyProof.Rows.ite_ff ⟨.bl false, H5, I5, rfl, q5⟩
    | true => exact PyProof.Rows.ite_tt (chain_last (thn (hd.run pins s5 σ H5 _ I5 q5) fun w2 s6 ⟨z3, H6, I6, r6, q6⟩ => ho'' pins s6 σ H6 z' z3 w' w2 Q I6 r4 r6 q6))
theorem pt_chain3 {op op' op'' : CmpOp} {r r' r'' : R2} (ho : OpR X (compareOp op) r) (ho' : OpR X (compareOp op') r') (ho'' : OpR X (compareOp op'') r'') (ha : PE X a ta) (hb : PE X b tb) (hc : PE X c tc) (hd : PE X d td)
    (hm : lastMarks [op, op', op''] [b, c, d] = false := by with_unfolding_all rfl) : PT X (.Compare a [op, op', op''] [b, c, d] pos) (tTest (tChain3 r r' r'' ta tb tc td)) := by
  refine ⟨fun pins s σ H Q I h => ?_⟩
  refine isTrue_chain (thn (ha.run pins s σ H _ I h) fun v s1 ⟨x, H1, I1, r1, q1⟩ => test_link (thn (hb.run pins s1 σ H1 _ I1 q1) fun u s2 ⟨y, H2, I2, r2, q2⟩ =>
    thn (ho pins s2 σ H2 x y v u _ I2 r1 r2 q2) fun e s3 ⟨z, H3, I3, r3, k, ez, q3⟩ => ?_)) hm
  subst ez
  cases r3
  refine wpAny_truthy_bool ?_
  cases k with
  | false =>
    obtain ⟨k', e', q'⟩ := q3
    cases e'
    exact PyProof.Rows.ite_ff ⟨H3, I3, q'⟩
  | true =>
    refine PyProof.Rows.ite_tt (test_link (thn (hc.run pins s3 σ H3 _ I3 q3) fun w' s4 ⟨z', H4, I4, r4, q4⟩ => thn (ho' pins s4 σ H4 y z' u w' _ I4 r2 r4 q4) fun e s5 ⟨z2, H5, I5, r5, k2, ez2, q5⟩ => ?_))
    subst ez2
    cases r5
    refine wpAny_truthy_bool ?_
    cases k2 with
    | false =>
      obtain ⟨k', e', q'⟩ := q5
      cases e'
      exact PyProof.Rows.ite_ff ⟨H5, I5, q'⟩
    | true =>
      refine PyProof.Rows.ite_tt (test_last (thn (hd.run pins s5 σ H5 _ I5 q5) fun w2 s6 ⟨z3, H6, I6, r6, q6⟩ => thn (ho'' pins s6 σ H6 z' z3 w' w2 _ I6 r4 r6 q6) fun e s7 ⟨z4, H7, I7, r7, k3, ez3, q7⟩ => ?_))
      subst ez3
      cases r7
      exact wpAny_truthy_bool ⟨H7, I7, q7⟩
end
section
variable {X : Cx} {a b c d : Expr} {pos : Pos} {wa wb wc wd : WO} {g g' g'' : F2}
def eCh3 (g g' g'' : F2) (wa wb wc wd : WO) : WE := fun ts Q => wa ts fun c1 ts1 => wb ts1 fun c2 ts2 => resP ts2 c1 fun o1 => resP ts2 c2 fun o2 => g o1 o2 fun r => ∃ b, r.1 = .bool b ∧
  if b = true then wc ts2 fun c3 ts3 => resP ts3 c2 fun o2' => resP ts3 c3 fun o3 => g' o2' o3 fun r' => ∃ b, r'.1 = .bool b ∧
    (if b = true then wd ts3 fun c4 ts4 => resP ts4 c3 fun o3' => resP ts4 c4 fun o4 => g'' o3' o4 fun r'' => Q r'' ts4 else Q (.bool false, .full) ts3) else Q (.bool false, .full) ts2
theorem ch3_mo (mg : Mo2 g) (mg' : Mo2 g') (mg'' : Mo2 g'') (ma : Mo wa) (mb : Mo wb) (mc : Mo wc) (md : Mo wd) : Mo (eCh3 g g' g'' wa wb wc wd) := fun _ _ _ k => ma _ _ _ fun _ _ => mb _ _ _ fun _ _ => resP_mo fun _ => resP_mo fun _ => mg _ _ _ _ fun r ⟨b, e, q⟩ => ⟨b, e, by
  cases b with
  | true => exact mc _ _ _ (fun _ _ => resP_mo fun _ => resP_mo fun _ => mg' _ _ _ _ fun _ ⟨b, e, q⟩ => ⟨b, e, by
      cases b with
      | true => exact md _ _ _ (fun _ _ => resP_mo fun _ => resP_mo fun _ => mg'' _ _ _ _ fun _ => k _ _) q
      | false => exact k _ _ q⟩) q
  | false => exact k _ _ q⟩
theorem rd_ch3 {K F σ H Q r r' r''} (s : Sd2 K g r) (s' : Sd2 K g' r') (s'' : Sd2 K g'' r'') (ma : Mo wa) (mb : Mo wb) (mc : Mo wc) (md : Mo wd) (h : rdE K F (eCh3 g g' g'' wa wb wc wd) σ H Q) : tChain3 r r' r'' (rdO K F wa) (rdO K F wb) (rdO K F wc) (rdO K F wd) σ H Q := by
  obtain ⟨ts, A, k, q⟩ := h
  refine ⟨ts, A, k, ma _ _ _ (fun c ts1 q v H1 A1 k1 g1 r1 => ?_) q⟩
  refine ⟨ts1, A1, k1, mb _ _ _ (fun c2 ts2 q v2 H2 A2 k2 g2 r2 => ?_) q⟩
  obtain ⟨o, h1, q⟩ := cap_res k2 (r1.keep k1 g2) q
  obtain ⟨p, h2, q⟩ := cap_res k2 r2 q
  refine s.run _ _ _ _ _ _ _ k2.lists h1 h2 (s.mo _ _ _ _ (fun c ⟨b, e, q⟩ u H3 B P => ?_) q)
  have hu : u = .bl b := dp_bl P.ow e
  subst hu
  refine ⟨b, rfl, ?_⟩
  obtain ⟨k3, g3, st3⟩ := chg_same k2 P.same
  cases b with
  | true =>
    refine ⟨ts2, A2, k3, mc _ _ _ (fun c3 ts3 q v3 H4 A4 k4 g4 r4 => ?_) q⟩
    have r2' : CapR K H3 (fun a => F a ∨ a ∈ A2) σ c2 v2 := r2.keep k2 g3
    obtain ⟨o2, h3, q⟩ := cap_res k4 (r2'.keep k3 g4) q
    obtain ⟨o3, h4, q⟩ := cap_res k4 r4 q
    refine s'.run _ _ _ _ _ _ _ k4.lists h3 h4 (s'.mo _ _ _ _ (fun c ⟨b, e, q⟩ u H5 B P => ?_) q)
    have hu : u = .bl b := dp_bl P.ow e
    subst hu
    refine ⟨b, rfl, ?_⟩
    obtain ⟨k5, g5, st5⟩ := chg_same k4 P.same
    cases b with
    | true =>
      refine ⟨ts3, A4, k5, md _ _ _ (fun c4 ts4 q v4 H6 A6 k6 g6 r6 => ?_) q⟩
      have r4' : CapR K H5 (fun a => F a ∨ a ∈ A4) σ c3 v3 := r4.keep k4 g5
      obtain ⟨o4, h5, q⟩ := cap_res k6 (r4'.keep k5 g6) q
      obtain ⟨o5, h6, q⟩ := cap_res k6 r6 q
      exact s''.run _ _ _ _ _ _ _ k6.lists h5 h6 (s''.mo _ _ _ _ (fun c => pure_contE k6 (((((g1.trans g2).trans g3).trans g4).trans g5).trans g6)) q)
    | false => exact contE_bl k5 ((((g1.trans g2).trans g3).trans g4).trans g5) q
  | false => exact contE_bl k3 ((g1.trans g2).trans g3) q
theorem se_ch3 {op op' op'' : CmpOp} {r r' r'' : R2} (ho : OpR X (compareOp op) r) (ho' : OpR X (compareOp op') r') (ho'' : OpR X (compareOp op'') r'') (s : Sd2 X.K g r) (s' : Sd2 X.K g' r') (s'' : Sd2 X.K g'' r'') (ha : SO X a wa) (hb : SO X b wb) (hc : SO X c wc) (hd : SO X d wd)
    (hm : lastMarks [op, op', op''] [b, c, d] = false := by with_unfolding_all rfl) : SE X (.Compare a [op, op', op''] [b, c, d] pos) (eCh3 g g' g'' wa wb wc wd) :=
  ⟨ch3_mo s.mo s'.mo s''.mo ha.mo hb.mo hc.mo hd.mo, fun F => pe_weak (pe_chain3 ho ho' ho'' (ha.run F) (hb.run F) (hc.run F) (hd.run F) hm) fun _ _ _ => rd_ch3 s s' s'' ha.mo hb.mo hc.mo hd.mo⟩
theorem st_ch3 {op op' op'' : CmpOp} {r r' r'' : R2} (ho : OpR X (compareOp op) r) (ho' : OpR X (compareOp op') r') (ho'' : OpR X (compareOp op'') r'') (s : Sd2 X.K g r) (s' : Sd2 X.K g' r') (s'' : Sd2 X.K g'' r'') (ha : SO X a wa) (hb : SO X b wb) (hc : SO X c wc) (hd : SO X d wd)
    (hm : lastMarks [op, op', op''] [b, c, d] = false := by with_unfolding_all rfl) : ST X (.Compare a [op, op', op''] [b, c, d] pos) (tOf (eCh3 g g' g'' wa wb wc wd)) := by
  have m := ch3_mo s.mo s'.mo s''.mo ha.mo hb.mo hc.mo hd.mo
  refine ⟨fun _ _ _ k => m _ _ _ fun _ _ ⟨b, e, q⟩ => ⟨b, e, k _ _ q⟩, fun F => pt_weak (pt_chain3 ho ho' ho'' (ha.run F) (hb.run F) (hc.run F) (hd.run F) hm) fun σ H Q ⟨ts, A, k, q⟩ => ?_⟩
  exact rd_ch3 s s' s'' ha.mo hb.mo hc.mo hd.mo (Q := fun x H' => ∃ k, x = .bl k ∧ Q k H') ⟨ts, A, k, m _ _ _ (fun _ _ => contT_E) q⟩
end
/-! ### the state within a comprehension: D the new list, B what its items own, KP what is kept -/
def StayP (KP : (Addr → Prop) → Hp → Prop) : Prop := ∀ M H M' H', KP M H → Stay H M H' M' → KP M' H'
structure CI (K : PySem.W.Frag) (F : Addr → Prop) (D : Addr) (A0 : List Addr) (H0 : Hp) (KP : (Addr → Prop) → Hp → Prop) (τ : St) (ts' : TSt) (A' B : List Addr) (accV : List V) (acc : List TVal) (H' : Hp) : Prop where
  k : Core K (fun a => F a ∨ a ∈ D :: B) ts' τ H' A'
  nd : (D :: B).Nodup
  nf : ∀ a ∈ D :: B, ¬ F a
  chg : Chg A0 H0 (A' ++ (D :: B)) H'
  new : H' D = some (.lst accV)
  ow : OwL K H' (fun a => (F a ∨ a ∈ D :: B) ∨ a ∈ A') accV acc B
  kp : KP (fun a => (F a ∨ a ∈ D :: B) ∨ a ∈ A') H'
section
variable {K : PySem.W.Frag} {F : Addr → Prop} {D : Addr} {A0 : List Addr} {H0 : Hp} {KP KP' : (Addr → Prop) → Hp → Prop} {τ τ2 : St} {ts ts2 : TSt} {A A2 B : List Addr} {accV : List V} {acc : List TVal} {H H2 : Hp}
theorem CI.move (hKP : StayP KP) (c : CI K F D A0 H0 KP τ ts A B accV acc H) (k : Core K (fun a => F a ∨ a ∈ D :: B) ts2 τ2 H2 A2) (g : Chg A H A2 H2) : CI K F D A0 H0 KP τ2 ts2 A2 B accV acc H2 := by
  have st := g.stay c.k.fa
  have same : ∀ a ∈ D :: B, H2 a = H a := fun a ha => by
    obtain ⟨xs, e⟩ := c.k.fa a (.inr ha)
    rw [e, g.ext a _ e fun h => c.k.dj a h (.inr ha)]
  refine ⟨k, c.nd, c.nf, c.chg.trans ⟨fun b o e n => g.ext b o e fun h => n (List.mem_append_left _ h), fun x hx => ?_⟩, (same D List.mem_cons_self).trans c.new, c.ow.stay st fun a ha => same a (List.mem_cons_of_mem _ ha), hKP _ _ _ _ c.kp st⟩
  rcases List.mem_append.mp hx with hx | hx
  · exact (g.sub x hx).imp (List.mem_append_left _) id
  · exact .inl (List.mem_append_right _ hx)
theorem CI.keep (c : CI K F D A0 H0 KP τ ts A B accV acc H) (h : KP' (fun a => (F a ∨ a ∈ D :: B) ∨ a ∈ A) H) : CI K F D A0 H0 KP' τ ts A B accV acc H := ⟨c.k, c.nd, c.nf, c.chg, c.new, c.ow, h⟩
theorem CI.wipe (hKP : StayP KP) {vs : List Nat} (c : CI K F D A0 H0 KP τ ts A B accV acc H) : ∃ A', CI K F D A0 H0 KP (L2.wipe τ vs) (wipeT ts vs) A' B accV acc H := by
  obtain ⟨A', k', s', _⟩ := core_wipe (vs := vs) c.k
  exact ⟨A', c.move hKP (core_wiped k') (Chg.refl.less s')⟩
theorem CI.unwipe {vs : List Nat} (c : CI K F D A0 H0 KP (L2.wipe τ vs) ts A B accV acc H) (hn : ∀ i ∈ vs, i < ts.length → ts[i]? = some none) : CI K F D A0 H0 KP τ ts A B accV acc H := by
  obtain ⟨A₀, p, w⟩ := c.k.rp
  exact ⟨⟨c.k.nd, c.k.dj, c.k.fa, A₀, p, w.unwipe hn⟩, c.nd, c.nf, c.chg, c.new, c.ow, c.kp⟩
theorem CI.push (hKP : StayP KP) (c : CI K F D A0 H0 KP τ ts A B accV acc H) {ts7 : TSt} {H7 : Hp} {A7 B7 : List Addr} {v : V} {x : TVal} (k7 : Core K (fun a => (F a ∨ a ∈ D :: B) ∨ a ∈ B7) ts7 τ H7 A7) (nb7 : B7.Nodup) (fb7 : ∀ a ∈ B7, ¬ (F a ∨ a ∈ D :: B)) (g7 : Chg A H (A7 ++ B7) H7) (w7 : Ow K H7 (fun a => ((F a ∨ a ∈ D :: B) ∨ a ∈ B7) ∨ a ∈ A7) x.2 v x.1 B7) :
    H7 D = some (.lst accV) ∧ CI K F D A0 H0 KP τ ts7 A7 (B ++ B7) (accV ++ [v]) (acc ++ [x]) (upd H7 D (.lst (accV ++ [v]))) := by
  have frm7 : ∀ a ∈ D :: B, H7 a = H a := fun a ha => by
    obtain ⟨xs, e⟩ := c.k.fa a (.inr ha)
    rw [e, g7.ext a _ e fun h => c.k.dj a h (.inr ha)]
  have hD7 : H7 D = some (.lst accV) := (frm7 D List.mem_cons_self).trans c.new
  have nDB : D ∉ B := (List.nodup_cons.mp c.nd).1
  have nB7 : ∀ a ∈ B7, a ∉ D :: B := fun a ha h => fb7 a ha (.inr h)
  have eM : (fun a => (F a ∨ a ∈ D :: B) ∨ a ∈ B7) = fun a => F a ∨ a ∈ D :: (B ++ B7) := by
    funext a
    rw [or_assoc, ← List.cons_append, List.mem_append]
  have st7 : Stay H7 (fun a => ((F a ∨ a ∈ D :: B) ∨ a ∈ B7) ∨ a ∈ A7) (upd H7 D (.lst (accV ++ [v]))) (fun a => (F a ∨ a ∈ D :: (B ++ B7)) ∨ a ∈ A7) := fun b o e n => by
    have nD : b ≠ D := fun e => n (.inl (.inl (.inr (e ▸ List.mem_cons_self))))
    refine ⟨by rw [upd_ne nD]; exact e, fun x => n ?_⟩
    rcases x with x | x
    · exact .inl ((congrFun eM b).mpr x)
    · exact .inr x
  have st3 : Stay H (fun a => (F a ∨ a ∈ D :: B) ∨ a ∈ A) (upd H7 D (.lst (accV ++ [v]))) (fun a => (F a ∨ a ∈ D :: (B ++ B7)) ∨ a ∈ A7) := fun b o e n => by
    have nD : b ≠ D := fun e => n (.inl (.inr (e ▸ List.mem_cons_self)))
    have nA3 : b ∉ A := fun h => n (.inr h)
    refine ⟨by rw [upd_ne nD]; exact g7.ext b o e nA3, fun x => ?_⟩
    have no : b ∈ A7 ++ B7 → False := fun h => by
      rcases g7.sub b h with h | h
      · exact nA3 h
      · rw [h] at e; cases e
    rcases x with x | x
    · rcases (congrFun eM b).mpr x with x | x
      · exact n (.inl x)
      · exact no (List.mem_append_right _ x)
    · exact no (List.mem_append_left _ x)
  have frm8 : ∀ a ∈ B, (upd H7 D (.lst (accV ++ [v]))) a = H a := fun a ha => by
    rw [upd_ne (fun e => nDB (by rw [← e]; exact ha))]
    exact frm7 a (List.mem_cons_of_mem _ ha)
  refine ⟨hD7, ?_, ?_, ?_, ?_, upd_same, ?_, hKP _ _ _ _ c.kp st3⟩
  · rw [eM] at k7
    obtain ⟨A₉, p9, w9⟩ := k7.rp
    have st9 : Stay H7 (fun a => (F a ∨ a ∈ D :: (B ++ B7)) ∨ a ∈ A7) (upd H7 D (.lst (accV ++ [v]))) (fun a => (F a ∨ a ∈ D :: (B ++ B7)) ∨ a ∈ A7) := fun b o e n =>
      ⟨by rw [upd_ne (fun e2 => n (.inl (.inr (by rw [e2]; exact List.mem_cons_self))))]; exact e, n⟩
    refine ⟨k7.nd, k7.dj, fun a f => ?_, A₉, p9, w9.stay st9 fun a ha => ?_⟩
    · by_cases e : a = D
      · subst e
        exact ⟨_, upd_same⟩
      · rw [upd_ne e]
        exact k7.fa a f
    · rw [upd_ne fun e => k7.dj a (p9.mem_iff.mp ha) (.inr (by rw [e]; exact List.mem_cons_self))]
  · refine List.nodup_cons.mpr ⟨fun h => ?_, List.nodup_append.mpr ⟨(List.nodup_cons.mp c.nd).2, nb7, fun a ha b hb e => nB7 b hb (e ▸ List.mem_cons_of_mem _ ha)⟩⟩
    rcases List.mem_append.mp h with h | h
    · exact nDB h
    · exact nB7 D h List.mem_cons_self
  · intro a ha
    rcases List.mem_cons.mp ha with rfl | ha
    · exact c.nf a List.mem_cons_self
    · rcases List.mem_append.mp ha with ha | ha
      · exact c.nf a (List.mem_cons_of_mem _ ha)
      · exact fun f => fb7 a ha (.inl f)
  · refine c.chg.trans ⟨fun b o e n => ?_, fun x hx => ?_⟩
    · rw [upd_ne (fun e2 => n (List.mem_append_right _ (by rw [e2]; exact List.mem_cons_self)))]
      exact g7.ext b o e fun h => n (List.mem_append_left _ h)
    · have lift : x ∈ A7 ++ B7 → x ∈ A ++ D :: B ∨ H x = none := fun h => (g7.sub x h).imp (List.mem_append_left _) id
      rcases List.mem_append.mp hx with hx | hx
      · exact lift (List.mem_append_left _ hx)
      · rcases List.mem_cons.mp hx with rfl | hx
        · exact .inl (List.mem_append_right _ List.mem_cons_self)
        · rcases List.mem_append.mp hx with hx | hx
          · exact .inl (List.mem_append_right _ (List.mem_cons_of_mem _ hx))
          · exact lift (List.mem_append_right _ hx)
  · have w8 := c.ow.stay st3 frm8
    have w9 : Ow K (upd H7 D (.lst (accV ++ [v]))) (fun a => (F a ∨ a ∈ D :: (B ++ B7)) ∨ a ∈ A7) x.2 v x.1 B7 := Ow.stay st7 _ _ _ _ w7 fun a ha => by
      rw [upd_ne (fun e => nB7 a ha (by rw [e]; exact List.mem_cons_self))]
    have := w8.append (.cons w9 .nil)
    rwa [List.append_nil] at this
/-- a turn -/
theorem CI.turn (hKP : StayP KP) {σ : St} {n : Nat} {vs : List Nat} {G : WG} {Tt : WT} {P q' : TSt → Prop} {Y : St → Hp → Prop} {Nx : Hp → Prop} {d : PyData} {v : V} {H4 : Hp} (hn : σ.length = n) (c : CI K F D A0 H0 KP (L2.wipe σ vs) ts A B accV acc H) (same : ∀ b o, H b = some o → H4 b = some o) (r : Rp K H4 (fun a => ((F a ∨ a ∈ D :: B) ∨ a ∈ A) ∧ H a ≠ none) v d)
    (mg : MoG G) (mt : Mo Tt) (q : G (d, .fz) ts fun ts5 => Tt ts5 fun b ts6 => if b = true then P ts6 else q' ts6)
    (yes : ∀ σ5 ts6 A6 H6, σ5.length = n → L2.wipe σ5 vs = L2.wipe σ vs → CI K F D A0 H0 KP σ5 ts6 A6 B accV acc H6 → P ts6 → Y σ5 H6)
    (no : ∀ σ5 ts6 A6 H6, σ5.length = n → L2.wipe σ5 vs = L2.wipe σ vs → CI K F D A0 H0 KP σ5 ts6 A6 B accV acc H6 → q' ts6 → Nx H6) :
    rdGx K (others n vs) G v (L2.wipe σ vs) H4 fun σ2 H2 => L2.wipe σ2 vs = L2.wipe σ vs ∧ rdTx K Tt σ2 H2 fun b H3 => if b = true then Y σ2 H3 else Nx H3 := by
  obtain ⟨k4, g4, st4⟩ := chg_same c.k same
  have c4 := c.move hKP k4 g4
  have hfl : ∀ a, (F a ∨ a ∈ D :: B) ∨ a ∈ A → H a ≠ none := fun a h => by
    rcases h with h | h
    · obtain ⟨xs, e⟩ := c.k.fa a h
      rw [e]; exact fun h => nomatch h
    · obtain ⟨xs, e⟩ := c.k.there a h
      rw [e]; exact fun h => nomatch h
  have k4' : Core K (fun a => (F a ∨ a ∈ D :: B) ∨ a ∈ ([] : List Addr)) ts (L2.wipe σ vs) H4 A := by
    have e0 : (fun a => (F a ∨ a ∈ D :: B) ∨ a ∈ ([] : List Addr)) = fun a => F a ∨ a ∈ D :: B := by funext a; simp
    rw [e0]; exact k4
  refine ⟨fun a => F a ∨ a ∈ D :: B, (others n vs).map (fun j => (j, ((L2.wipe σ vs)[j]?).join)), ?_, ts, A, [], (d, .fz), k4', List.nodup_nil, fun _ h => absurd h List.not_mem_nil, .fz (Rp.stay (fun b o e nn => ⟨e, fun x => nn ?_⟩) _ _ r), ?_, mg _ _ _ _ (fun ts5 q5 σ5 H5 A5 k5 g5 p5 => ?_) q⟩
  · rw [List.map_map]
    exact List.map_id _
  · have x' : (F b ∨ b ∈ D :: B) ∨ b ∈ A := x.elim (fun h => h.elim .inl fun h => absurd h List.not_mem_nil) .inr
    exact ⟨x', hfl b x'⟩
  · intro p hp
    obtain ⟨j, hj, rfl⟩ := List.mem_map.mp hp
    have hjn : j < n := List.mem_range.mp (List.mem_filter.mp hj).1
    rw [List.getElem?_eq_getElem (by rw [wipe_length, hn]; exact hjn)]
    rfl
  · rw [List.append_nil] at g5
    intro l5'
    have l5 : σ5.length = n := by rw [l5', wipe_length]; exact hn
    have e5 : L2.wipe σ5 vs = L2.wipe σ vs := by
      refine wipe_eq hn l5 fun j hj => ?_
      have hp := p5 (j, ((L2.wipe σ vs)[j]?).join) (List.mem_map.mpr ⟨j, hj, rfl⟩)
      have hjn : j < n := List.mem_range.mp (List.mem_filter.mp hj).1
      rw [hp, List.getElem?_eq_getElem (show j < (L2.wipe σ vs).length by rw [wipe_length, hn]; exact hjn)]
      rfl
    refine ⟨e5, fun a => F a ∨ a ∈ D :: B, ts5, A5, k5, mt _ _ _ (fun b ts6 q6 H6 A6 k6 g6 => ?_) q5⟩
    have c6 := (c4.move hKP k5 g5).move hKP k6 g6
    cases b with
    | false =>
      show if false = true then Y σ5 H6 else Nx H6
      rw [if_neg Bool.false_ne_true]
      rw [if_neg Bool.false_ne_true] at q6
      exact no σ5 ts6 A6 H6 l5 e5 c6 q6
    | true =>
      show if true = true then Y σ5 H6 else Nx H6
      rw [if_pos rfl]
      rw [if_pos rfl] at q6
      exact yes σ5 ts6 A6 H6 l5 e5 c6 q6
end
/-! ### two clauses -/
def compL2 (G : WG) (Tt : WT) (Wi1 : WI) (G1 : WG) (Tt1 : WT) (We : WE) (vs vs1 : List Nat) (Q : List TVal → TSt → Prop) : List PyData → List TVal → TSt → Prop
  | [], acc, ts => Q acc ts
  | d :: ds, acc, ts => G (d, .fz) ts fun ts1 => Tt ts1 fun b ts2 => if b = true then Wi1 ts2 fun ds1 ts3 => compL G1 Tt1 We vs1 (fun acc ts4 => compL2 G Tt Wi1 G1 Tt1 We vs vs1 Q ds acc (wipeT ts4 vs)) ds1 acc (wipeT ts3 vs1)
    else compL2 G Tt Wi1 G1 Tt1 We vs vs1 Q ds acc (wipeT ts2 vs)
def eLc2 (Wi : WI) (G : WG) (Tt : WT) (Wi1 : WI) (G1 : WG) (Tt1 : WT) (We : WE) (vs vs1 : List Nat) : WE := fun ts Q => Wi ts fun ds ts1 => compL2 G Tt Wi1 G1 Tt1 We vs vs1 (fun acc ts2 => Q (.list (acc.map (·.1)), dsp acc) (backT ts1 ts2 vs)) ds [] (wipeT ts1 vs)
theorem compL2_mo {G : WG} {Tt : WT} {Wi1 : WI} {G1 : WG} {Tt1 : WT} {We : WE} {vs vs1 : List Nat} (g : MoG G) (t : Mo Tt) (i1 : Mo Wi1) (g1 : MoG G1) (t1 : Mo Tt1) (w : Mo We) {Q Q' : List TVal → TSt → Prop} (k : ∀ c t, Q c t → Q' c t) : ∀ ds acc ts, compL2 G Tt Wi1 G1 Tt1 We vs vs1 Q ds acc ts → compL2 G Tt Wi1 G1 Tt1 We vs vs1 Q' ds acc ts
  | [], _, _, h => k _ _ h
  | d :: ds, acc, ts, h => g _ _ _ _ (fun ts1 => t _ _ _ fun b ts2 q => by
      cases b with
      | true => exact i1 _ _ _ (fun ds1 ts3 q => compL_mo g1 t1 w (fun acc ts4 => compL2_mo g t i1 g1 t1 w k ds acc _) ds1 acc _ q) q
      | false => exact compL2_mo g t i1 g1 t1 w k ds _ _ q) h
def rdIx (K : PySem.W.Frag) (W : WI) : TI := fun σ H R => ∃ F, rdI K F W σ H R
theorem SI.ex {X : Cx} {tg e : Expr} {W : WI} (h : SI X tg e W) : PI X tg e (rdIx X.K W) := ⟨fun pins s σ H R I ⟨F, q⟩ => (h.run F).run pins s σ H R I q⟩
section
variable {K : PySem.W.Frag} {F : Addr → Prop} {Wi Wi1 : WI} {G G1 : WG} {Tt Tt1 : WT} {We : WE} {vs vs1 : List Nat} {n : Nat} {σ : St} {H : Hp} {Q : VK}
theorem rd_lc2 (mi : Mo Wi) (mg : MoG G) (mt : Mo Tt) (mi1 : Mo Wi1) (mg1 : MoG G1) (mt1 : Mo Tt1) (me : Mo We) (hn : σ.length = n) (h : rdE K F (eLc2 Wi G Tt Wi1 G1 Tt1 We vs vs1) σ H Q) :
    tLc2 (rdI K F Wi) (rdGx K (others n vs) G) (rdTx K Tt) (rdIx K Wi1) (rdGx K (others n vs1) G1) (rdTx K Tt1) (rdEx K We) vs vs1 σ H Q := by
  obtain ⟨ts, A, k, q⟩ := h
  refine ⟨ts, A, k, mi _ _ _ (fun ds ts1 q I Z H1 A1 k1 g1 wk z => ?_) q⟩
  intro D hD
  obtain ⟨A2, k2, s2, sh⟩ := core_wipe (vs := vs) k1
  have z2 := wk.stay _ _ _ _ z (stay_less fun a (x : F a ∨ a ∈ A2) => x.imp id (s2 a))
  have g2 : Chg A H A2 H1 := g1.less s2
  have k3 := core_wiped k2
  have nF : ¬ F D := fun f => by
    obtain ⟨xs, e⟩ := k.fa' g1 D f
    rw [hD] at e; cases e
  have nA : ∀ a ∈ A2, a ≠ D := fun a ha e => by
    obtain ⟨xs, e'⟩ := k3.there a ha
    rw [e, hD] at e'; cases e'
  have stD : Stay H1 (fun a => F a ∨ a ∈ A2) (upd H1 D (.lst [])) (fun a => (F a ∨ a ∈ D :: []) ∨ a ∈ A2) := fun b o e n => ⟨upd_keep hD b o e, fun x => by
    rcases x with (x | x) | x
    · exact n (.inl x)
    · rw [List.mem_singleton] at x
      subst x
      rw [hD] at e; cases e
    · exact n (.inr x)⟩
  -- what is kept
  let KP : (Addr → Prop) → Hp → Prop := fun M H' => Z M H' ∧ Shd K H' M σ ts1 vs
  have hKP : StayP KP := fun M H M' H' x st => ⟨wk.stay _ _ _ _ x.1 st, x.2.stay st⟩
  have c0 : CI K F D A H KP (L2.wipe σ vs) (wipeT ts1 vs) A2 [] [] [] (upd H1 D (.lst [])) := by
    refine ⟨?_, by simp, fun a ha => by rw [List.mem_singleton] at ha; subst ha; exact nF, ⟨fun b o e n => upd_keep hD b o (g2.ext b o e n), fun x hx => ?_⟩, upd_same, .nil, wk.stay _ _ _ _ z2 stD, sh.stay stD⟩
    · obtain ⟨A₀, p, w⟩ := k3.rp
      refine ⟨k3.nd, fun a ha f => ?_, fun a f => ?_, A₀, p, w.stay stD fun a ha => ?_⟩
      · rcases f with f | f
        · exact k3.dj a ha f
        · rw [List.mem_singleton] at f
          exact nA a ha f
      · rcases f with f | f
        · obtain ⟨xs, e⟩ := k3.fa a f
          exact ⟨xs, upd_keep hD _ _ e⟩
        · rw [List.mem_singleton] at f
          subst f
          exact ⟨_, upd_same⟩
      · obtain ⟨xs, e⟩ := w.there a ha
        rw [e, upd_keep hD _ _ e]
    · rcases List.mem_append.mp hx with hx | hx
      · exact g2.sub x hx
      · rw [List.mem_singleton] at hx
        subst hx
        exact g2.new hD
  let Qe : List TVal → TSt → Prop := fun acc ts2 => contE K F σ H A Q (.list (acc.map (·.1)), dsp acc) (backT ts1 ts2 vs)
  refine ⟨fun i m H' => m = ds.length - i ∧ i ≤ ds.length ∧ ∃ ts' A' B accV acc, CI K F D A H KP (L2.wipe σ vs) ts' A' B accV acc H' ∧ (∀ i ∈ vs, i < ts'.length → ts'[i]? = some none) ∧ compL2 G Tt Wi1 G1 Tt1 We vs vs1 Qe (ds.drop i) acc ts',
    ⟨ds.length, by simp, Nat.zero_le _, wipeT ts1 vs, A2, [], [], [], c0, fun i hi hl => wipeT_at hi (by rwa [wipeT_len] at hl), q⟩, ?_⟩
  rintro i m H3 ⟨rfl, hi, ts3, A3, B, accV, acc, c3, n3, q3⟩
  by_cases hlt : i < ds.length
  · have e : ds[i]? = some ds[i] := List.getElem?_eq_getElem hlt
    obtain ⟨go, y⟩ := wk.go _ _ i _ c3.kp.1 e
    rw [List.drop_eq_getElem_cons hlt] at q3
    let Nx : Hp → Prop := fun H' => ∃ ts' A' B accV acc, CI K F D A H KP (L2.wipe σ vs) ts' A' B accV acc H' ∧ (∀ i ∈ vs, i < ts'.length → ts'[i]? = some none) ∧ compL2 G Tt Wi1 G1 Tt1 We vs vs1 Qe (ds.drop (i + 1)) acc ts'
    refine .inr ⟨go, Nx, fun H' h => ⟨ds.length - (i + 1), by omega, rfl, by omega, h⟩, fun x H4 hy => ?_⟩
    obtain ⟨same, r⟩ := y x H4 hy
    refine c3.turn hKP hn same r mg mt (P := fun ts2 => Wi1 ts2 fun ds1 ts3 => compL G1 Tt1 We vs1 (fun acc ts4 => compL2 G Tt Wi1 G1 Tt1 We vs vs1 Qe (ds.drop (i + 1)) acc (wipeT ts4 vs)) ds1 acc (wipeT ts3 vs1))
      (q' := fun ts2 => compL2 G Tt Wi1 G1 Tt1 We vs vs1 Qe (ds.drop (i + 1)) acc (wipeT ts2 vs)) q3 ?_ ?_
    · intro σ5 ts6 A6 H6 l5 e5 c6 p6
      refine ⟨fun a => F a ∨ a ∈ D :: B, ts6, A6, c6.k, mi1 _ _ _ (fun ds1 ts7 q7 J1 Z1 H7 A7 k7 g7 wk1 z1 => ?_) p6⟩
      let KP2 : (Addr → Prop) → Hp → Prop := fun M H' => KP M H' ∧ Z1 M H'
      have hKP2 : StayP KP2 := fun M H M' H' x st => ⟨hKP _ _ _ _ x.1 st, wk1.stay _ _ _ _ x.2 st⟩
      have c7 : CI K F D A H KP2 σ5 ts7 A7 B accV acc H7 := (c6.move hKP k7 g7).keep ⟨(c6.move hKP k7 g7).kp, z1⟩
      obtain ⟨A8, c8⟩ := c7.wipe hKP2 (vs := vs1)
      let Qc : List TVal → TSt → Prop := fun acc ts4 => compL2 G Tt Wi1 G1 Tt1 We vs vs1 Qe (ds.drop (i + 1)) acc (wipeT ts4 vs)
      refine ⟨fun j k H' => k = ds1.length - j ∧ j ≤ ds1.length ∧ ∃ ts' A' B accV acc, CI K F D A H KP2 (L2.wipe σ5 vs1) ts' A' B accV acc H' ∧ (∀ i ∈ vs1, i < ts'.length → ts'[i]? = some none) ∧ compL G1 Tt1 We vs1 Qc (ds1.drop j) acc ts',
        ⟨ds1.length, by simp, Nat.zero_le _, wipeT ts7 vs1, A8, B, accV, acc, c8, fun i hi hl => wipeT_at hi (by rwa [wipeT_len] at hl), q7⟩, ?_⟩
      rintro j k H9 ⟨rfl, hj, ts9, A9, B9, accV9, acc9, c9, n9, q9⟩
      by_cases hlj : j < ds1.length
      · have ej : ds1[j]? = some ds1[j] := List.getElem?_eq_getElem hlj
        obtain ⟨go1, y1⟩ := wk1.go _ _ j _ c9.kp.2 ej
        rw [List.drop_eq_getElem_cons hlj] at q9
        let Nx1 : Hp → Prop := fun H' => ∃ ts' A' B accV acc, CI K F D A H KP2 (L2.wipe σ5 vs1) ts' A' B accV acc H' ∧ (∀ i ∈ vs1, i < ts'.length → ts'[i]? = some none) ∧ compL G1 Tt1 We vs1 Qc (ds1.drop (j + 1)) acc ts'
        refine .inr ⟨go1, Nx1, fun H' h => ⟨ds1.length - (j + 1), by omega, rfl, by omega, h⟩, fun x H10 hy => ?_⟩
        obtain ⟨same1, r1⟩ := y1 x H10 hy
        refine c9.turn hKP2 l5 same1 r1 mg1 mt1 (P := fun ts2 => We ts2 fun c ts3 => acc9.length < sizeLine ∧ compL G1 Tt1 We vs1 Qc (ds1.drop (j + 1)) (acc9 ++ [c]) (wipeT ts3 vs1))
          (q' := fun ts2 => compL G1 Tt1 We vs1 Qc (ds1.drop (j + 1)) acc9 (wipeT ts2 vs1)) q9 ?_ ?_
        · intro σ11 ts11 A11 H11 l11 e11 c11 p11
          refine ⟨fun a => F a ∨ a ∈ D :: B9, ts11, A11, c11.k, me _ _ _ (fun c ts12 ⟨l12, q12⟩ v H12 A12 B12 k12 nb12 fb12 g12 w12 => ?_) p11⟩
          obtain ⟨hD12, c12⟩ := c11.push hKP2 k12 nb12 fb12 g12 w12
          obtain ⟨A13, c13⟩ := c12.wipe hKP2 (vs := vs1)
          rw [e11] at c13
          exact ⟨accV9, hD12, by rw [c11.ow.len]; exact l12, _, _, _, _, _, c13, fun i hi hl => wipeT_at hi (by rwa [wipeT_len] at hl), q12⟩
        · intro σ11 ts11 A11 H11 l11 e11 c11 q11
          obtain ⟨A13, c13⟩ := c11.wipe hKP2 (vs := vs1)
          rw [e11] at c13
          exact ⟨_, _, _, _, _, c13, fun i hi hl => wipeT_at hi (by rwa [wipeT_len] at hl), q11⟩
      · have ee : j = ds1.length := by omega
        subst ee
        rw [List.drop_length] at q9
        refine .inl ⟨wk1.stop _ _ c9.kp.2, ?_⟩
        have c10 := c9.unwipe n9
        obtain ⟨A13, c13⟩ := (c10.keep c10.kp.1).wipe hKP (vs := vs)
        rw [e5] at c13
        exact ⟨_, _, _, _, _, c13, fun i hi hl => wipeT_at hi (by rwa [wipeT_len] at hl), q9⟩
    · intro σ5 ts6 A6 H6 l5 e5 c6 q6
      obtain ⟨A13, c13⟩ := c6.wipe hKP (vs := vs)
      rw [e5] at c13
      exact ⟨_, _, _, _, _, c13, fun i hi hl => wipeT_at hi (by rwa [wipeT_len] at hl), q6⟩
  · have e : i = ds.length := by omega
    subst e
    rw [List.drop_length] at q3
    refine .inl ⟨wk.stop _ _ c3.kp.1, ?_⟩
    have c4 := c3.unwipe n3
    have k6 := core_back c4.k n3 c4.kp.2
    obtain ⟨nd3, f3, g3, hD3, w3⟩ := (⟨c3.nd, c3.nf, c3.chg, c3.new, c3.ow⟩ : _ ∧ _ ∧ _ ∧ _ ∧ _)
    by_cases hc : cleans acc = true
    · have q4 : contE K F σ H A Q (.list (acc.map (·.1)), .full) (backT ts1 ts3 vs) := by
        have e : dsp acc = .full := by unfold dsp; rw [if_pos hc]
        rw [← e]; exact q3
      obtain ⟨B', r, rfl⟩ := w3.fulls hc
      exact q4 (.ref D) H3 A3 (D :: B') k6 nd3 f3 g3 (.fullL hD3 r)
    · have q4 : contE K F σ H A Q (.list (acc.map (·.1)), .top) (backT ts1 ts3 vs) := by
        have e : dsp acc = .top := by unfold dsp; rw [if_neg hc]
        rw [← e]; exact q3
      have k7 : Core K (fun a => F a ∨ a ∈ [D]) (backT ts1 ts3 vs) σ H3 A3 := core_less k6 fun a x => x.imp id fun h => by
        rw [List.mem_singleton] at h
        rw [h]
        exact List.mem_cons_self
      refine q4 (.ref D) H3 A3 [D] k7 (by simp) (fun a ha => ?_) (g3.less fun x hx => ?_) (.topL hD3 (w3.give (fun a x => ?_) fun a ha x => ?_))
      · rw [List.mem_singleton] at ha
        subst ha
        exact nF
      · rcases List.mem_append.mp hx with hx | hx
        · exact List.mem_append_left _ hx
        · rw [List.mem_singleton] at hx
          subst hx
          exact List.mem_append_right _ List.mem_cons_self
      · rcases x with (x | x) | x
        · exact .inl (.inl x)
        · rw [List.mem_singleton] at x
          subst x
          exact .inl (.inr List.mem_cons_self)
        · exact .inr x
      · rcases x with (x | x) | x
        · exact f3 a (List.mem_cons_of_mem _ ha) x
        · rw [List.mem_singleton] at x
          subst x
          exact (List.nodup_cons.mp nd3).1 ha
        · exact c3.k.dj a x (.inr (List.mem_cons_of_mem _ ha))
end
section
variable {X : Cx} {elt tg iter tg1 iter1 : Expr} {ifs ifs1 : List Expr} {scope : Scope} {own : List (Str × Nat)} {pos : Pos} {Wi Wi1 : WI} {G G1 : WG} {Tt Tt1 : WT} {We : WE} {vs vs1 : List Nat} {n : Nat}
theorem lc2_mo (mi : Mo Wi) (mg : MoG G) (mt : Mo Tt) (mi1 : Mo Wi1) (mg1 : MoG G1) (mt1 : Mo Tt1) (me : Mo We) : Mo (eLc2 Wi G Tt Wi1 G1 Tt1 We vs vs1) := fun _ _ _ k => mi _ _ _ fun ds ts1 => compL2_mo mg mt mi1 mg1 mt1 me (fun _ _ => k _ _) ds [] _
/-- [elt for tg in iter if .. for tg1 in iter1 if ..] -/
theorem se_lc2 (hc : X.calm = true) (hN : X.N.Nodup) (hn : X.N.length = n) (hv : own.map (·.2) = vs) (hv1 : ∀ i ∈ vs1, i ∈ own.map (·.2)) (hi : SI X tg iter Wi) (ok : BlkOk X.N X.env.scope scope own)
    (hg : ∀ (s : Shared) (H : Hp) (C : Addr) (cl : List (Str × Addr)) (fp : List Addr), SG (X.blk s H scope (compEnvC scope cl C X.env) fp) (others n vs) tg G)
    (ht : ∀ (s : Shared) (H : Hp) (C : Addr) (cl : List (Str × Addr)) (fp : List Addr), STs (X.blk s H scope (compEnvC scope cl C X.env) fp) ifs Tt)
    (hi1 : ∀ (s : Shared) (H : Hp) (C : Addr) (cl : List (Str × Addr)) (fp : List Addr), SI (X.blk s H scope (compEnvC scope cl C X.env) fp) tg1 iter1 Wi1)
    (hg1 : ∀ (s : Shared) (H : Hp) (C : Addr) (cl : List (Str × Addr)) (fp : List Addr), SG (X.blk s H scope (compEnvC scope cl C X.env) fp) (others n vs1) tg1 G1)
    (ht1 : ∀ (s : Shared) (H : Hp) (C : Addr) (cl : List (Str × Addr)) (fp : List Addr), STs (X.blk s H scope (compEnvC scope cl C X.env) fp) ifs1 Tt1)
    (he : ∀ (s : Shared) (H : Hp) (C : Addr) (cl : List (Str × Addr)) (fp : List Addr), SE (X.blk s H scope (compEnvC scope cl C X.env) fp) elt We)
    (hs : ∀ x, foldedSetIterable iter X.env x = pure x := by intro _; rfl) (hs1 : ∀ env x, foldedSetIterable iter1 env x = pure x := by intro _ _; rfl) : SE X (.ListComp elt [⟨tg, iter, ifs, 0⟩, ⟨tg1, iter1, ifs1, 0⟩] scope pos) (eLc2 Wi G Tt Wi1 G1 Tt1 We vs vs1) := by
  have mg : MoG G := (hg X.s_0 (fun _ => none) 0 [] []).mo
  have mt : Mo Tt := (ht X.s_0 (fun _ => none) 0 [] []).mo
  have mi1 : Mo Wi1 := (hi1 X.s_0 (fun _ => none) 0 [] []).mo
  have mg1 : MoG G1 := (hg1 X.s_0 (fun _ => none) 0 [] []).mo
  have mt1 : Mo Tt1 := (ht1 X.s_0 (fun _ => none) 0 [] []).mo
  have me : Mo We := (he X.s_0 (fun _ => none) 0 [] []).mo
  subst hv
  refine ⟨lc2_mo hi.mo mg mt mi1 mg1 mt1 me, fun F => ⟨fun pins s σ H Q I q => ?_⟩⟩
  exact (pe_lc2 (te := rdEx X.K We) (tt := rdTx X.K Tt) (g := rdGx X.K (others n (own.map (·.2))) G) (wi1 := rdIx X.K Wi1) (g1 := rdGx X.K (others n vs1) G1) (tt1 := rdTx X.K Tt1) hc hN (hi.run F) ok hv1 (fun s H C cl fp => (hg s H C cl fp).ex) (fun s H C cl fp => (ht s H C cl fp).ex)
    (fun s H C cl fp => (hi1 s H C cl fp).ex) (fun s H C cl fp => (hg1 s H C cl fp).ex) (fun s H C cl fp => (ht1 s H C cl fp).ex) (fun s H C cl fp => (he s H C cl fp).ex) hs hs1).run pins s σ H Q I (rd_lc2 hi.mo mg mt mi1 mg1 mt1 me (I.len.trans hn) q)
theorem ss_setLc2 {J : List Nat} {Y : WY} {i : Nat} {y : Str} {py spos : Pos} (hc : X.calm = true) (hN : X.N.Nodup) (hn : X.N.length = n) (hv : own.map (·.2) = vs) (hv1 : ∀ i ∈ vs1, i ∈ own.map (·.2)) (hy : X.N[i]? = some y) (hyl : X.env.scope.names.lookup y = some .local) (hj : i ∉ J)
    (hsw : swapsWith (.ListComp elt [⟨tg, iter, ifs, 0⟩, ⟨tg1, iter1, ifs1, 0⟩] scope pos) (some (.Name y py)) spos.line X.env = pure true) (hi : SI X tg iter Wi) (ok : BlkOk X.N X.env.scope scope own)
    (hg : ∀ (s : Shared) (H : Hp) (C : Addr) (cl : List (Str × Addr)) (fp : List Addr), SG (X.blk s H scope (compEnvC scope cl C X.env) fp) (others n vs) tg G)
    (ht : ∀ (s : Shared) (H : Hp) (C : Addr) (cl : List (Str × Addr)) (fp : List Addr), STs (X.blk s H scope (compEnvC scope cl C X.env) fp) ifs Tt)
    (hi1 : ∀ (s : Shared) (H : Hp) (C : Addr) (cl : List (Str × Addr)) (fp : List Addr), SI (X.blk s H scope (compEnvC scope cl C X.env) fp) tg1 iter1 Wi1)
    (hg1 : ∀ (s : Shared) (H : Hp) (C : Addr) (cl : List (Str × Addr)) (fp : List Addr), SG (X.blk s H scope (compEnvC scope cl C X.env) fp) (others n vs1) tg1 G1)
    (ht1 : ∀ (s : Shared) (H : Hp) (C : Addr) (cl : List (Str × Addr)) (fp : List Addr), STs (X.blk s H scope (compEnvC scope cl C X.env) fp) ifs1 Tt1)
    (he : ∀ (s : Shared) (H : Hp) (C : Addr) (cl : List (Str × Addr)) (fp : List Addr), SE (X.blk s H scope (compEnvC scope cl C X.env) fp) elt We)
    (hs : ∀ x, foldedSetIterable iter X.env x = pure x := by intro _; rfl) (hs1 : ∀ env x, foldedSetIterable iter1 env x = pure x := by intro _ _; rfl) : SSY Y X J (.Assign [.Name y py] (.ListComp elt [⟨tg, iter, ifs, 0⟩, ⟨tg1, iter1, ifs1, 0⟩] scope pos) spos) (wAsg (eLc2 Wi G Tt Wi1 G1 Tt1 We vs vs1) (gN i)) := by
  have mg : MoG G := (hg X.s_0 (fun _ => none) 0 [] []).mo
  have mt : Mo Tt := (ht X.s_0 (fun _ => none) 0 [] []).mo
  have mi1 : Mo Wi1 := (hi1 X.s_0 (fun _ => none) 0 [] []).mo
  have mg1 : MoG G1 := (hg1 X.s_0 (fun _ => none) 0 [] []).mo
  have mt1 : Mo Tt1 := (ht1 X.s_0 (fun _ => none) 0 [] []).mo
  have me : Mo We := (he X.s_0 (fun _ => none) 0 [] []).mo
  subst hv
  have ml := lc2_mo (vs := own.map (·.2)) (vs1 := vs1) hi.mo mg mt mi1 mg1 mt1 me
  have gm : MoG (gN i) := fun c ts Q Q' k h => ⟨h.1, k _ h.2⟩
  refine ⟨asg_mo ml gm, fun F io hio => ⟨fun pins s σ H D I q => ?_⟩⟩
  refine (ps_setLc2 (te := rdEx X.K We) (tt := rdTx X.K Tt) (g := rdGx X.K (others n (own.map (·.2))) G) (wi1 := rdIx X.K Wi1) (g1 := rdGx X.K (others n vs1) G1) (tt1 := rdTx X.K Tt1) hc hN hy hyl hsw (hi.run F) ok hv1 (fun s H C cl fp => (hg s H C cl fp).ex) (fun s H C cl fp => (ht s H C cl fp).ex)
    (fun s H C cl fp => (hi1 s H C cl fp).ex) (fun s H C cl fp => (hg1 s H C cl fp).ex) (fun s H C cl fp => (ht1 s H C cl fp).ex) (fun s H C cl fp => (he s H C cl fp).ex) hs hs1).run pins s σ H D I ?_
  obtain ⟨ts, A, k, p, q⟩ := q
  refine rd_lc2 hi.mo mg mt mi1 mg1 mt1 me (I.len.trans hn) ⟨ts, A, k, ml _ _ _ (fun c ts1 q v H1 A1 B k1 nb fb g1 w => ?_) q⟩
  obtain ⟨hl, q⟩ := q
  obtain ⟨A', k', sub⟩ := k1.put nb fb hl w
  exact q _ H1 A' k' (g1.trans ⟨fun _ _ e _ => e, fun x hx => .inl (List.mem_append.mpr (sub x hx))⟩) (pin_set hio hj p)
end
theorem eLc2_k {Wi Wi1 : WI} {G G1 : WG} {Tt Tt1 : WT} {We : WE} {vs vs1 : List Nat} {ts : TSt} {Q : TVal → TSt → Prop} (h : Wi ts fun ds ts1 => compL2 G Tt Wi1 G1 Tt1 We vs vs1 (fun acc ts2 => Q (.list (acc.map (·.1)), dsp acc) (backT ts1 ts2 vs)) ds [] (wipeT ts1 vs)) : eLc2 Wi G Tt Wi1 G1 Tt1 We vs vs1 ts Q := h
/-- where the state stays: g tells what each item of the first gives -/
theorem compL2_pure {G : WG} {Tt : WT} {Wi1 : WI} {G1 : WG} {Tt1 : WT} {We : WE} {vs vs1 : List Nat} {Q : List TVal → TSt → Prop} {ts1 : TSt} (g : PyData → List TVal) :
    ∀ {ds : List PyData} {acc : List TVal}, (∀ d ∈ ds, ∀ (KS : List TVal → TSt → Prop) (acc : List TVal), (∀ t, wipeT t vs = ts1 → KS (acc ++ g d) t) → (acc.length + (g d).length ≤ 16777216) → G (d, .fz) ts1 fun ts1 => Tt ts1 fun b ts2 => if b = true then Wi1 ts2 fun ds1 ts3 => compL G1 Tt1 We vs1 KS ds1 acc (wipeT ts3 vs1) else KS acc ts2) →
    (acc.length + (ds.map fun d => (g d).length).sum ≤ 16777216) → Q (acc ++ ds.flatMap g) ts1 → compL2 G Tt Wi1 G1 Tt1 We vs vs1 Q ds acc ts1
  | [], acc, _, _, q => by simpa [compL2] using q
  | d :: ds, acc, h, hl, q => by
    rw [List.map_cons, List.sum_cons] at hl
    refine h d List.mem_cons_self (fun acc ts4 => compL2 G Tt Wi1 G1 Tt1 We vs vs1 Q ds acc (wipeT ts4 vs)) acc (fun t ht => ?_) (by omega)
    show compL2 _ _ _ _ _ _ _ _ _ _ _ (wipeT t vs)
    rw [ht]
    refine compL2_pure g (fun d hd => h d (List.mem_cons_of_mem _ hd)) (by rw [List.length_append]; omega) ?_
    rw [List.flatMap_cons] at q
    rw [List.append_assoc]
    exact q
/-! ### loops and comprehensions over mapped lists -/
theorem forL_map {α : Type} (f : α → PyData) {G : WG} {Wb : WS} {D : TEnds} {ns : List α} {ts1 : TSt} (I : List α → TSt → Prop) (h0 : I [] ts1) (hs : ∀ l n r ts, ns = l ++ n :: r → I l ts → ∀ K : TSt → Prop, (∀ t, I (l ++ [n]) t → K t) → G (f n, .fz) ts fun ts1 => Wb { D with nx := K, ct := K, bk := D.nx } ts1) (hd : ∀ ts, I ns ts → D.nx ts) : forL G Wb D (ns.map f) ts1 := by
  refine forL_inv (fun i ts => I (ns.take i) ts) h0 ?_ ?_
  · rintro i d ts e h K hK
    rw [List.getElem?_map] at e
    cases hn : ns[i]? with
    | none => rw [hn] at e; cases e
    | some n =>
      rw [hn] at e
      cases e
      obtain ⟨hi, hni⟩ := List.getElem?_eq_some_iff.mp hn
      refine hs (ns.take i) n (ns.drop (i + 1)) ts ?_ h K fun t ht => hK t ?_
      · rw [← hni, List.getElem_cons_drop, List.take_append_drop]
      · rw [List.take_add_one, hn]
        exact ht
  · intro ts h
    rw [List.length_map, List.take_length] at h
    exact hd ts h
theorem fst_full : ∀ xs : List PyData, (xs.map fun d => ((d, Own.full) : TVal)).map (fun x => x.fst) = xs
  | [] => rfl
  | x :: xs => by rw [List.map_cons, List.map_cons, fst_full xs]
theorem all_full : ∀ xs : List PyData, (xs.map fun d => ((d, Own.full) : TVal)).all clean = true
  | [] => rfl
  | x :: xs => by rw [List.map_cons, List.all_cons, all_full xs]; simp [clean]
theorem compL2_map {α : Type} (f : α → PyData) (h : α → List PyData) {G : WG} {Tt : WT} {Wi1 : WI} {G1 : WG} {Tt1 : WT} {We : WE} {vs vs1 : List Nat} {Q : List TVal → TSt → Prop} {ts1 : TSt} (m : Nat) {l : List α}
    (hm : ∀ a ∈ l, (h a).length ≤ m) (hl : m * l.length ≤ 16777216)
    (hs : ∀ a ∈ l, ∀ (KS : List TVal → TSt → Prop) (acc : List TVal), (∀ t, wipeT t vs = ts1 → KS (acc ++ (h a).map fun d => (d, .full)) t) → acc.length + (h a).length ≤ 16777216 → G (f a, .fz) ts1 fun ts1 => Tt ts1 fun b ts2 => if b = true then Wi1 ts2 fun ds1 ts3 => compL G1 Tt1 We vs1 KS ds1 acc (wipeT ts3 vs1) else KS acc ts2)
    (q : Q ((l.flatMap h).map fun d => ((d, Own.full) : TVal)) ts1) : compL2 G Tt Wi1 G1 Tt1 We vs vs1 Q (l.map f) [] ts1 := by
  have key : ∀ (l : List α) (acc : List PyData), (∀ a ∈ l, (h a).length ≤ m) → acc.length + m * l.length ≤ 16777216 →
    (∀ a ∈ l, ∀ (KS : List TVal → TSt → Prop) (acc : List TVal), (∀ t, wipeT t vs = ts1 → KS (acc ++ (h a).map fun d => (d, .full)) t) → acc.length + (h a).length ≤ 16777216 → G (f a, .fz) ts1 fun ts1 => Tt ts1 fun b ts2 => if b = true then Wi1 ts2 fun ds1 ts3 => compL G1 Tt1 We vs1 KS ds1 acc (wipeT ts3 vs1) else KS acc ts2) →
    Q ((acc ++ l.flatMap h).map fun d => ((d, Own.full) : TVal)) ts1 → compL2 G Tt Wi1 G1 Tt1 We vs vs1 Q (l.map f) (acc.map fun d => (d, Own.full)) ts1 := by
    intro l
    induction l with
    | nil => intro acc _ _ _ q; simpa [compL2] using q
    | cons a l ih =>
      intro acc h1 h2 h3 q
      rw [List.length_cons, Nat.mul_succ] at h2
      have ha := h1 a List.mem_cons_self
      refine h3 a List.mem_cons_self (fun acc ts4 => compL2 G Tt Wi1 G1 Tt1 We vs vs1 Q (l.map f) acc (wipeT ts4 vs)) _ (fun t ht => ?_) (by rw [List.length_map]; omega)
      show compL2 _ _ _ _ _ _ _ _ _ _ _ (wipeT t vs)
      rw [ht, ← List.map_append]
      refine ih _ (fun b hb => h1 b (List.mem_cons_of_mem _ hb)) (by rw [List.length_append]; omega) (fun b hb => h3 b (List.mem_cons_of_mem _ hb)) ?_
      rw [List.flatMap_cons] at q
      rw [List.append_assoc]
      exact q
  exact key l [] hm (by simpa using hl) hs q
theorem compL_map {α : Type} (f : α → PyData) (g : α → Option PyData) {G : WG} {Tt : WT} {We : WE} {vs : List Nat} {Q : List TVal → TSt → Prop} {ts1 : TSt} {l : List α} (hl : l.length ≤ 16777216)
    (hs : ∀ a ∈ l, ∀ (KS : TVal → TSt → Prop) (KN : TSt → Prop), (∀ d t, g a = some d → wipeT t vs = ts1 → KS (d, .full) t) → (∀ t, g a = none → wipeT t vs = ts1 → KN t) → G (f a, .fz) ts1 fun ts1 => Tt ts1 fun b ts2 => if b = true then We ts2 KS else KN ts2)
    (q : Q ((l.filterMap g).map fun d => ((d, Own.full) : TVal)) ts1) : compL G Tt We vs Q (l.map f) [] ts1 := by
  have key : ∀ (l : List α) (acc : List PyData), acc.length + l.length ≤ 16777216 →
    (∀ a ∈ l, ∀ (KS : TVal → TSt → Prop) (KN : TSt → Prop), (∀ d t, g a = some d → wipeT t vs = ts1 → KS (d, .full) t) → (∀ t, g a = none → wipeT t vs = ts1 → KN t) → G (f a, .fz) ts1 fun ts1 => Tt ts1 fun b ts2 => if b = true then We ts2 KS else KN ts2) →
    Q ((acc ++ l.filterMap g).map fun d => ((d, Own.full) : TVal)) ts1 → compL G Tt We vs Q (l.map f) (acc.map fun d => (d, Own.full)) ts1 := by
    intro l
    induction l with
    | nil => intro acc _ _ q; simpa [compL] using q
    | cons a l ih =>
      intro acc h2 h3 q
      rw [List.length_cons] at h2
      have h3' : ∀ b ∈ l, _ := fun b hb => h3 b (List.mem_cons_of_mem _ hb)
      refine h3 a List.mem_cons_self (fun c ts3 => (acc.map fun d => ((d, Own.full) : TVal)).length < sizeLine ∧ compL G Tt We vs Q (l.map f) ((acc.map fun d => (d, Own.full)) ++ [c]) (wipeT ts3 vs)) (fun ts2 => compL G Tt We vs Q (l.map f) (acc.map fun d => (d, Own.full)) (wipeT ts2 vs)) (fun d t hg ht => ?_) (fun t hg ht => ?_)
      · refine ⟨by rw [List.length_map, sizeLine_eq]; omega, ?_⟩
        rw [ht]
        have := ih (acc ++ [d]) (by rw [List.length_append]; simp only [List.length_cons, List.length_nil]; omega) h3' (by rw [List.filterMap_cons_some hg] at q; rw [List.append_assoc]; exact q)
        rw [List.map_append] at this
        exact this
      · show compL _ _ _ _ _ _ _ (wipeT t vs)
        rw [ht]
        exact ih acc (by omega) h3' (by rw [List.filterMap_cons_none hg] at q; exact q)
  exact key l [] (by simpa using hl) hs q
theorem fm_some {α β : Type} (g : α → β) : ∀ l : List α, l.filterMap (fun a => some (g a)) = l.map g
  | [] => rfl
  | a :: l => congrArg (g a :: ·) (fm_some g l)
theorem eqv_self {d : PyData} (h : d.plain = true) : PyData.eqv d d = true := SeqAt.eqv_refl_plain d h
end TV
end
set_option Elab.async false
set_option linter.all false
set_option maxRecDepth 100000
set_option maxHeartbeats 1000000
/-! Part 22: a list of one's own whose items are given up, ahead of a statement. -/
section
namespace TV
open PySem PySem.Spec L2
def topT (ts : TSt) (i : Nat) : TSt := match ts[i]? with
  | some (some (.list ds, .full)) => ts.set i (some (.list ds, mkL .full ds))
  | _ => ts
theorem core_top {K : PySem.W.Frag} {F : Addr → Prop} {ts : TSt} {σ : St} {H : Hp} {A : List Addr} (k : Core K F ts σ H A) (i : Nat) : ∃ A', Core K F (topT ts i) σ H A' ∧ Chg A H A' H := by
  unfold topT
  split
  · rename_i ds e
    obtain ⟨v, B, A2, h1, h2, hp, k2, nb, fb⟩ := k.take e
    obtain ⟨l, xs, rfl, hl', hlB, rr⟩ := own_list h2 (fun h => nomatch h) hp k.nd k.dj
    obtain ⟨A', k3, sub, g3⟩ := mut_back k e (fun h => nomatch h) h1 hl' hp hlB k2 rr
    have eH : upd H l (.lst xs) = H := by
      funext b
      unfold upd
      split
      · rename_i eb
        rw [eb, hl']
      · rfl
    rw [eH] at k3 g3
    refine ⟨A', k3, ⟨g3.ext, fun x hx => ?_⟩⟩ <;> first | exact g3.sub x hx | skip
  · exact ⟨A, k, Chg.refl⟩
def wTopS (i : Nat) (W : WS) : WS := fun D ts => W D (topT ts i)
theorem ss_topS {X : Cx} {J : List Nat} {Y : WY} {i : Nat} {sts : List Stmt} {W : WS} (h : SSsY Y X J sts W) : SSsY Y X J sts (wTopS i W) := by
  refine ⟨fun D D' ts l q => h.mo D D' _ l q, fun F io hio => pss_weak (h.run F io hio) fun D σ H ⟨ts, A, k, p, q⟩ => ?_⟩
  obtain ⟨A', k', g⟩ := core_top k i
  exact ⟨topT ts i, A', k', p, h.mo _ _ _ (ends_tr g) q⟩
/-- .. where each item has no lists of others' in it -/
theorem compL_mapQ {α : Type} (f : α → PyData) (g : α → Option PyData) {G : WG} {Tt : WT} {We : WE} {vs : List Nat} {Q : List TVal → TSt → Prop} {ts1 : TSt} {l : List α} (hl : l.length ≤ 16777216)
    (hs : ∀ a ∈ l, ∀ (KS : TVal → TSt → Prop) (KN : TSt → Prop), (∀ d m t, g a = some d → clean (d, m) = true → wipeT t vs = ts1 → KS (d, m) t) → (∀ t, g a = none → wipeT t vs = ts1 → KN t) → G (f a, .fz) ts1 fun ts1 => Tt ts1 fun b ts2 => if b = true then We ts2 KS else KN ts2)
    (q : ∀ acc : List TVal, acc.map (fun x => x.fst) = l.filterMap g → acc.all clean = true → Q acc ts1) : compL G Tt We vs Q (l.map f) [] ts1 := by
  have key : ∀ (l : List α) (acc : List TVal), acc.length + l.length ≤ 16777216 → acc.all clean = true →
    (∀ a ∈ l, ∀ (KS : TVal → TSt → Prop) (KN : TSt → Prop), (∀ d m t, g a = some d → clean (d, m) = true → wipeT t vs = ts1 → KS (d, m) t) → (∀ t, g a = none → wipeT t vs = ts1 → KN t) → G (f a, .fz) ts1 fun ts1 => Tt ts1 fun b ts2 => if b = true then We ts2 KS else KN ts2) →
    (∀ acc' : List TVal, acc'.map (fun x => x.fst) = acc.map (fun x => x.fst) ++ l.filterMap g → acc'.all clean = true → Q acc' ts1) → compL G Tt We vs Q (l.map f) acc ts1 := by
    intro l
    induction l with
    | nil => intro acc _ hc _ q; exact q acc (by simp) hc
    | cons a l ih =>
      intro acc h2 hc h3 q
      rw [List.length_cons] at h2
      have h3' : ∀ b ∈ l, _ := fun b hb => h3 b (List.mem_cons_of_mem _ hb)
      refine h3 a List.mem_cons_self (fun c ts3 => acc.length < sizeLine ∧ compL G Tt We vs Q (l.map f) (acc ++ [c]) (wipeT ts3 vs)) (fun ts2 => compL G Tt We vs Q (l.map f) acc (wipeT ts2 vs)) (fun d m t hg hm ht => ?_) (fun t hg ht => ?_)
      · refine ⟨by rw [sizeLine_eq]; omega, ?_⟩
        rw [ht]
        refine ih (acc ++ [(d, m)]) (by rw [List.length_append]; simp only [List.length_cons, List.length_nil]; omega) (by rw [List.all_append, hc]; simpa using hm) h3' fun acc' e1 e2 => q acc' ?_ e2
        rw [e1, List.filterMap_cons_some hg, List.map_append, List.append_assoc]
        rfl
      · show compL _ _ _ _ _ _ _ (wipeT t vs)
        rw [ht]
        exact ih acc (by omega) hc h3' fun acc' e1 e2 => q acc' (by rw [e1, List.filterMap_cons_none hg]) e2
  exact key l [] (by simpa using hl) rfl hs fun acc e1 e2 => q acc (by simpa using e1) e2
end TV
end
set_option Elab.async false
set_option linter.all false
set_option maxRecDepth 100000
set_option maxHeartbeats 1000000
/-! Part 23: a comprehension within a comprehension. -/
section
namespace TV
open PySem PySem.Spec L2 PyProof
def fcK (o : Option NameKind) : Bool := match o with | some .cell => true | some .free => true | _ => false
theorem relabel_lk (env : Env) (x : Str) : ∀ names : List (Str × NameKind), fcK ((names.map fun (n, k) => if (k == .free && env.scope.kind == .function && env.kindOf n == some .cell) then (n, NameKind.cell) else (n, k)).lookup x) = fcK (names.lookup x)
  | [] => rfl
  | (n, k) :: r => by
    have ih := relabel_lk env x r
    rw [List.map_cons]
    dsimp only
    by_cases c : (k == NameKind.free && env.scope.kind == .function && env.kindOf n == some .cell) = true
    · rw [if_pos c, List.lookup_cons, List.lookup_cons]
      cases x == n with
      | true =>
        rw [Bool.and_eq_true, Bool.and_eq_true] at c
        have : k = .free := by simpa using c.1.1
        subst this
        rfl
      | false => exact ih
    · rw [if_neg c, List.lookup_cons, List.lookup_cons]
      cases x == n with
      | true => rfl
      | false => exact ih
theorem blkC_re {N : List Str} {sc scope : Scope} {own : List (Str × Nat)} {env : Env} (h : blkC N sc scope own = true) : blkC N (relabel sc env) scope own = true := by
  have e : ∀ x, fcK ((relabel sc env).names.lookup x) = fcK (sc.names.lookup x) := fun x => relabel_lk env x sc.names
  have e2 : ∀ sc : Scope, blkC N sc scope own = ((match scope.kind with | .function => true | _ => false) && (scope.names.all fun y => decide (scope.names.lookup y.1 = some y.2)) && (own.all fun p => decide (N[p.2]? = some p.1)) &&
    (scope.names.all fun y => match y.2 with
      | .free => fcK (sc.names.lookup y.1)
      | .local => decide (y.1 ∈ own.map (·.1)) || decide (y.1 ∉ N)
      | .cell => decide (y.1 ∈ own.map (·.1)) || decide (y.1 ∉ N)
      | _ => true)) := fun sc => rfl
  rw [e2] at h ⊢
  simp only [e]
  exact h
theorem blkOk_in {X : Cx} {s : Shared} {H : Hp} {sc : Scope} {cl : List (Str × Addr)} {C : Addr} {fp : List Addr} {N : List Str} {scope : Scope} {own : List (Str × Nat)} (hN : X.N = N) (h : blkC N sc scope own = true) : BlkOk (X.blk s H sc (compEnvC sc cl C X.env) fp).N (X.blk s H sc (compEnvC sc cl C X.env) fp).env.scope scope own := by
  subst hN
  exact blkOk_by (blkC_re (env := X.env) h)
end TV
end
set_option Elab.async false
set_option linter.all false
set_option maxRecDepth 100000
set_option maxHeartbeats 1000000
/-! Part 24: a list of one's own that an expression went through is one's own again behind it. -/
section
namespace TV
open PySem PySem.Spec L2
section
variable {K : PySem.W.Frag} {H : Hp} {M M' : Addr → Prop}
/-- nothing that is shared has a list in it -/
def okO : Option TVal → Bool
  | some c => clean c
  | none => true
theorem OwS.anyC (l : ∀ b, M' b → M b ∨ ∃ xs, H b = some (.lst xs)) : ∀ {σ ts A}, OwS K H M σ ts A → ts.all okO = true → OwS K H M' σ ts A
  | _, _, _, .nil, _ => .nil
  | _, _, _, .sn h, e => .sn (OwS.anyC l h (by rw [List.all_cons] at e; exact (Bool.and_eq_true _ _ ▸ e).2))
  | _, _, _, .sv h r, e => by
    rw [List.all_cons, Bool.and_eq_true] at e
    exact .sv (Ow.anyC l h e.1) (OwS.anyC l r e.2)
end
/-- the expression goes through the flat list in slot i, which is one's own again behind it -/
def eRg (i : Nat) (We : WE) : WE := fun ts Q => ∃ ds m, ts[i]? = some (some (.list ds, m)) ∧ m ≠ .fz ∧ noLists ds = true ∧
  We ts fun c ts1 => clean c = true ∧ ts1[i]? = some (some (.list ds, .fz)) ∧ (ts1.set i none).all okO = true ∧ Q c (ts1.set i (some (.list ds, m)))
theorem se_rg {X : Cx} {e : Expr} {We : WE} {i : Nat} (h : SE X e We) : SE X e (eRg i We) := by
  refine ⟨fun ts Q Q' k ⟨ds, m, e, hm, hf, q⟩ => ⟨ds, m, e, hm, hf, h.mo _ _ _ (fun c ts1 ⟨h1, h2, h3, q⟩ => ⟨h1, h2, h3, k _ _ q⟩) q⟩, fun F => pe_weak (h.run F) ?_⟩
  rintro σ H Q ⟨ts, A, k, ds, m, e1, hm, hf, q⟩
  refine ⟨ts, A, k, h.mo _ _ _ (fun c ts1 ⟨hc, e2, hall, q⟩ v H' A' B k' nb fb g w => ?_) q⟩
  obtain ⟨v0, B0, A0, hσ, w0, hp0, -, -, -⟩ := k.take e1
  obtain ⟨a, xs0, rfl, rfl, ha0, -⟩ := flat_own w0 hm hf
  have aA : a ∈ A := hp0.mem_iff.mpr (List.mem_append_left _ List.mem_cons_self)
  obtain ⟨v1, B1, A1, hσ1, w1, hp1, k1, -, -⟩ := k'.take e2
  rw [hσ] at hσ1
  cases hσ1
  have hb1 : B1 = [] ∧ Rp X.K H' (fun x => (F x ∨ x ∈ B) ∨ x ∈ A') (.ref a) (.list ds) := by
    cases w1 with
    | fz r => exact ⟨rfl, r⟩
    | sc h _ => cases h
  obtain ⟨rfl, r1⟩ := hb1
  rw [List.nil_append] at hp1
  obtain ⟨xs, hls, hra⟩ : ∃ xs, LstR H' (fun x => (F x ∨ x ∈ B) ∨ x ∈ A') a xs ∧ RpAll X.K H' (fun x => (F x ∨ x ∈ B) ∨ x ∈ A') xs ds := by
    cases r1 with
    | lst h r => exact ⟨_, h, r⟩
  have ha : H' a = some (.lst xs) := hls.1
  have sub1 : ∀ x ∈ A1, x ∈ A' := fun x hx => hp1.mem_iff.mpr hx
  have hi : i < ts1.length := (List.getElem?_eq_some_iff.mp e2).1
  have k2 : Core X.K (fun x => (F x ∨ x ∈ B) ∨ x ∈ [a]) (ts1.set i none) σ H' A1 := by
    obtain ⟨A₀, p, w⟩ := k1.rp
    refine ⟨k1.nd, fun x hx f => ?_, fun x f => ?_, A₀, p, OwS.anyC (fun b hb => ?_) w hall⟩
    · rcases f with f | f
      · exact k1.dj x hx (.inl f)
      · rw [List.mem_singleton] at f
        subst f
        exact hls.2 (.inr (sub1 _ hx))
    · rcases f with f | f
      · exact k1.fa x (.inl f)
      · rw [List.mem_singleton] at f
        subst f
        exact ⟨_, ha⟩
    · rcases hb with (hb | hb) | hb
      · exact .inl (.inl (.inl hb))
      · rw [List.mem_singleton] at hb
        subst hb
        exact .inr ⟨_, ha⟩
      · exact .inl (.inr hb)
  have lw : ∀ b, ((fun x => ((F x ∨ x ∈ B) ∨ x ∈ [a]) ∨ x ∈ A1) b) → (F b ∨ b ∈ B) ∨ b ∈ A' ∨ False ∨ b = a := fun b hb => by
    rcases hb with (hb | hb) | hb
    · exact .inl hb
    · exact .inr (.inr (.inr (List.mem_singleton.mp hb)))
    · exact .inr (.inl (sub1 _ hb))
  have w3 : OwAll X.K H' (fun x => ((F x ∨ x ∈ B) ∨ x ∈ [a]) ∨ x ∈ A1) xs ds [] := by
    have h0 : Ow X.K H' (fun x => (F x ∨ x ∈ B) ∨ x ∈ A') .full (.ref a) (.list ds) [a] := .fullL ha (RpAll.full _ _ hra hf)
    have h1 := Ow.anyC (c := (.list ds, .full)) (M' := fun x => ((F x ∨ x ∈ B) ∨ x ∈ [a]) ∨ x ∈ A1) (fun b hb => ?_) h0 rfl
    · cases h1 with
      | fullL h r =>
        rw [ha] at h
        cases h
        obtain ⟨r', e⟩ := OwAll.flat _ _ _ r hf
        exact RpAll.full _ _ r' hf
    · rcases hb with (hb | hb) | hb
      · exact .inl (.inl hb)
      · rw [List.mem_singleton] at hb
        subst hb
        exact .inr ⟨_, ha⟩
      · exact .inl (.inr (sub1 _ hb))
  have w2 : Ow X.K H' (fun x => ((F x ∨ x ∈ B) ∨ x ∈ [a]) ∨ x ∈ A1) m (.ref a) (.list ds) [a] := by
    cases m with
    | fz => exact absurd rfl hm
    | top => exact .topL ha (OwAll.flat _ _ _ w3 hf).1
    | full => exact .fullL ha w3
  obtain ⟨A3, k4, s3⟩ := k2.put (c := (.list ds, m)) (v := .ref a) (List.nodup_cons.mpr ⟨List.not_mem_nil, List.nodup_nil⟩) (fun x hx f => by
    rw [List.mem_singleton] at hx
    subst hx
    exact hls.2 (.inl f)) (by rw [List.length_set]; exact hi) w2
  have e3 : σ.set i (some (V.ref a)) = σ := by
    apply List.ext_getElem?
    intro j
    by_cases hj : i = j
    · subst hj
      obtain ⟨hl, _⟩ := List.getElem?_eq_some_iff.mp hσ
      rw [List.getElem?_set_self hl, hσ]
    · rw [List.getElem?_set_ne hj]
  rw [e3, List.set_set] at k4
  refine q v H' A3 B k4 nb fb ⟨g.ext, fun x hx => ?_⟩ (Ow.anyC (fun b hb => ?_) w hc)
  · rcases List.mem_append.mp hx with hx | hx
    · rcases s3 x hx with h | h
      · exact g.sub x (List.mem_append_left _ (sub1 x h))
      · rw [List.mem_singleton.mp h]; exact .inl aA
    · exact g.sub x (List.mem_append_right _ hx)
  · rcases hb with hb | hb
    · exact .inl (.inl hb)
    · rcases s3 b hb with h | h
      · exact .inl (.inr (sub1 b h))
      · rw [List.mem_singleton] at h
        subst h
        exact .inr ⟨_, ha⟩
theorem eRg_k {i : Nat} {We : WE} {ts : TSt} {Q : TVal → TSt → Prop} (h : ∃ ds m, ts[i]? = some (some (.list ds, m)) ∧ m ≠ .fz ∧ noLists ds = true ∧
  We ts fun c ts1 => clean c = true ∧ ts1[i]? = some (some (.list ds, .fz)) ∧ (ts1.set i none).all okO = true ∧ Q c (ts1.set i (some (.list ds, m)))) : eRg i We ts Q := h
end TV
end
set_option Elab.async false
set_option linter.all false
set_option maxRecDepth 100000
set_option maxHeartbeats 1000000
/-! Part 25: texts and lists read backwards. -/
section
namespace TV
open PySem PySem.Spec L2 PyProof.Rows
def revS (x : Str) : Str := ⟨x.cps.toList.reverse.toArray⟩
theorem str_rev (x : Str) : (⟨((Builtin.Str.strSliceIndices none none (-1) x.length).filterMap (x.cps[·]?)).toArray⟩ : Str) = revS x := by
  have e : Builtin.Str.strSliceIndices none none (-1) x.length = sliceRange ((x.length : Int) - 1) (-1) (-1) := by
    unfold Builtin.Str.strSliceIndices
    simp
  have e2 : x.length = x.cps.size := rfl
  rw [e, PySem.W.krv_sliceRange, PySem.W.krv_range, List.filterMap_reverse, e2, PySem.W.krv_all]
  rfl
def tRevX (K : PySem.W.Frag) (te : TE) : TE := fun σ H Q => te σ H fun x H1 => (∃ a xs, x = .ref a ∧ SqL K H1 a xs ∧ ∀ p, H1 p = none → Q (.ref p) (upd H1 p (.lst xs.reverse))) ∨ ∃ z, x = .str z ∧ z.length ≤ sizeLine ∧ Q (.str (revS z)) H1
theorem pe_revX {X : Cx} {e : Expr} {te : TE} {k : Nat} {p1 p2 p3 pos : Pos} (he : PE X e te) : PE X (.Subscript e (.Slice none none (some (.UnaryOp .USub (.Constant (.int 1) k p1) p2)) p3) pos) (tRevX X.K te) := by
  refine ⟨fun pins s σ H Q I h => ?_⟩
  refine Subscript_ (thn (he.run pins s σ H _ I h) fun v s1 ⟨x, H1, I1, r1, q1⟩ => ?_)
  have hst : PO X (some (.UnaryOp .USub (.Constant (.int 1) k p1) p2)) (tPart (tUn (rU fun i => .int (-i)) (tC (.int 1)))) := po_some (pe_un un_neg pe_int)
  refine wpAny_Slice (thn (po_none.run pins s1 σ H1 (fun o H2 => o = none ∧ H2 = H1) I1 ⟨rfl, rfl⟩) fun vl s2 ⟨l, H2, I2, pl, el, e2⟩ => ?_)
  subst el e2
  refine thn (po_none.run pins s2 σ H2 (fun o H3 => o = none ∧ H3 = H2) I2 ⟨rfl, rfl⟩) fun vu s3 ⟨u, H3, I3, pu, eu, e3⟩ => ?_
  subst eu e3
  refine thn (hst.run pins s3 σ H3 (fun o H4 => o = some (-1) ∧ H4 = H3) I3 ⟨1, rfl, -1, rfl, rfl, rfl⟩) fun vs s4 ⟨o, H4, I4, ps, eo, e4⟩ => ?_
  subst eo e4
  have I5 : Inv X pins σ H4 { s4 with heap := s4.heap.push { cls := .type "slice", data := .fields #[vl, vu, vs] } } := I4.kept (t' := s4.toks) fun b ob q => Heap.get?_push_of_some _ q
  rcases q1 with ⟨a, xs, ex, hx, q⟩ | ⟨z, ex, hz, q⟩
  · subst ex
    cases r1
    obtain ⟨its, r, ht, hz⟩ := I5.list hx
    have hlen := r.length
    show wpAny (model X.prog X.w) X.A (subscriptTail e (.Slice none none (some (.UnaryOp .USub (.Constant (.int 1) k p1) p2)) p3) (.ref a) (.ref s4.heap.objs.size)) (EP X pins σ Q) X.xe { s4 with heap := s4.heap.push { cls := .type "slice", data := .fields #[vl, vu, vs] } }
    refine tail_any (ops := [.ref a, .ref s4.heap.objs.size]) ht.isList.typeIs (PySem.slot_list_getitem.lookup) ?_ (by with_unfolding_all rfl)
    refine wpAny_getItem_list_slice ht.isList (Heap.IsSliceOf.new _ vl vu vs) pl pu ps (by decide) ?_ (by rw [List.size_toArray]; omega)
    rw [PySem.W.krv_pick]
    refine ⟨.ref _, _, I5.laid (t' := s4.toks) (o := .lst xs.reverse) (fun b ob q => Heap.get?_push_of_some _ q) (Nat.le_refl _) ?_, rfl, q _ (I5.hok.fresh (Nat.le_refl _))⟩
    exact ⟨by rw [List.length_reverse]; exact hz, _, 0, r.reverse, Heap.get?_push_size _ rfl⟩
  · subst ex
    obtain ⟨t, rfl⟩ := r1
    obtain ⟨l, rfl, hl⟩ := IsPart.raw pl
    obtain ⟨u, rfl, hu⟩ := IsPart.raw pu
    obtain ⟨st, rfl, hs⟩ := IsPart.raw ps
    show wpAny (model X.prog X.w) X.A (subscriptTail e (.Slice none none (some (.UnaryOp .USub (.Constant (.int 1) k p1) p2)) p3) (.str z t) (.ref s4.heap.objs.size)) (EP X pins σ Q) X.xe { s4 with heap := s4.heap.push { cls := .type "slice", data := .fields #[partValue l, partValue u, partValue st] } }
    refine tail_any (ops := [.str z t, .ref s4.heap.objs.size]) (typeIs_str _ _ _) F.slot_str_getitem.lookup ?_ (by with_unfolding_all rfl)
    refine wpAny_getItem_str_slice (l := l) (u := u) (st := st) ⟨_, Heap.get?_push_size _ rfl, rfl, rfl⟩ (by rw [hs]; rfl) ?_
    have hr := str_rev z
    have hlen : (revS z).length = z.length := by
      show (revS z).cps.size = z.cps.size
      unfold revS
      simp
    unfold sliceMade slicePicked
    rw [hs, hl, hu]
    show Made.post (if ((-1 : Int) == 1 && (Builtin.Str.strSliceIndices none none (-1) z.length).length == z.length) = true then Made.val (.str z t) else Made.str ⟨((Builtin.Str.strSliceIndices none none (-1) z.length).filterMap (z.cps[·]?)).toArray⟩) (EP X pins σ Q) _
    rw [if_neg (by simp), hr]
    exact ⟨by rw [hlen]; exact hz, .str _, H4, I5.tok _, ⟨_, rfl⟩, q⟩
def fRevX : F1 := fun o Q => match o.1 with
  | .list ds => o.2 = true ∧ Q (.list ds.reverse, mkL .full ds.reverse)
  | .str z => z.length ≤ sizeLine ∧ Q (.str (revS z), .full)
  | _ => False
theorem se_revX {X : Cx} {e : Expr} {k : Nat} {p1 p2 p3 pos : Pos} {wa : WO} (h : SO X e wa) : SE X (.Subscript e (.Slice none none (some (.UnaryOp .USub (.Constant (.int 1) k p1) p2)) p3) pos) (e1 fRevX wa) := by
  have s1 : Sd1 X.K fRevX (fun x H Q => (∃ a xs, x = .ref a ∧ SqL X.K H a xs ∧ ∀ p, H p = none → Q (.ref p) (upd H p (.lst xs.reverse))) ∨ ∃ z, x = .str z ∧ z.length ≤ sizeLine ∧ Q (.str (revS z)) H) := by
    refine ⟨fun o Q Q' k h => ?_, fun H M x o Q hM ho h => ?_⟩
    · obtain ⟨d, b⟩ := o
      cases d <;> first | exact False.elim h | exact ⟨h.1, k _ h.2⟩
    · obtain ⟨d, b⟩ := o
      cases d <;> first | exact False.elim h | skip
      · exact .inr ⟨_, opn_str ho rfl, h.1, q_str h.2⟩
      · obtain ⟨a, xs, rfl, s, r⟩ := opn_lst ho rfl h.1
        exact .inl ⟨a, xs, rfl, .inl (.inl s), fun p hp => q_lst h.2 r.reverse (.inl rfl) hp⟩
  exact ⟨e1_mo s1.mo h.mo, fun F => pe_weak (pe_revX (h.run F)) fun _ _ _ => rd_e1 s1 h.mo⟩
end TV
end
set_option Elab.async false
set_option linter.all false
set_option maxRecDepth 100000
set_option maxHeartbeats 1000000
/-! Part 26: a range kept in a name, gone through once. -/
section
namespace TV
open PySem PySem.Spec L2 PyProof.Rows
def iRgv (te : TE) : TI := fun σ H R => te σ H fun v H1 => ∃ (a : Addr) (lo hi : Int), v = .ref a ∧ H1 a = some (.rng lo hi) ∧ (-(2 ^ 62) ≤ lo ∧ lo < 2 ^ 62 ∧ -(2 ^ 62) ≤ hi ∧ hi < 2 ^ 62) ∧ R (Itr lo (hi - lo).toNat) H1
theorem pi_rngv {X : Cx} {tg l : Expr} {tl : TE} (hl : PE X l tl) : PI X tg l (iRgv tl) := by
  refine ⟨fun pins s σ H R I h => ?_⟩
  refine thn (hl.run pins s σ H _ I h) fun v s1 ⟨x, H1, I1, r1, q1⟩ => ?_
  obtain ⟨a, lo, hi, ea, ha, ⟨h1, h2, h3, h4⟩, q⟩ := q1
  subst ea
  cases r1
  obtain ⟨t, u, w, hg⟩ : ∃ t u w, s1.heap.get? a = some { cls := .type "range", data := .fields #[.int lo t, .int hi u, .int 1 w] } := I1.hok a _ ha
  refine wpAny_pyIter_range (show IsRange s1.heap a lo hi 1 t u w from hg) (small_one h1 h2 h3 h4) ?_
  refine ⟨s1.heap.objs.size, [s1.heap.objs.size], _, _, H1, rfl, I1.kept (t' := s1.toks) fun b o e => Heap.get?_push_of_some _ e, turn_range _ lo (hi - lo).toNat, ?_, fun b hb => ?_, q⟩
  · have e1 : lo + ((0 : Nat) : Int) * 1 = lo := by simp
    have e2 : (((hi - lo).toNat : Nat) : Int) - ((0 : Nat) : Int) = Builtin.Range.rangeSize lo hi 1 := by rw [rangeSize_one]; split <;> omega
    show IsRangeIter _ _ (lo + ((0 : Nat) : Int) * 1) ((((hi - lo).toNat : Nat) : Int) - ((0 : Nat) : Int)) 1
    rw [e1, e2]
    exact Heap.get?_push_size _ rfl
  · have e : b = s1.heap.objs.size := by simpa using hb
    subst e
    exact I1.fpOk (Nat.le_refl _) (I1.hok.fresh (Nat.le_refl _))
section
variable {K : PySem.W.Frag} {F : Addr → Prop} {ts : TSt} {σ : L2.St} {H : Hp} {A : List Addr} {M : Addr → Prop}
theorem OwS.skip : ∀ {σ ts A} (i : Nat) (w : Option V), OwS K H M σ ts A → ts[i]? = some none → OwS K H M (σ.set i w) ts A
  | _, _, _, _, _, .nil, e => by simp at e
  | _, _, _, 0, _, .sn h, _ => .sn h
  | _, _, _, 0, _, .sv h r, e => by simp at e
  | _, _, _, i + 1, w, .sn h, e => .sn (OwS.skip i w h (by simpa using e))
  | _, _, _, i + 1, w, .sv h r, e => .sv h (OwS.skip i w r (by simpa using e))
/-- a slot is given what no tree tells -/
theorem Core.bind {i : Nat} {w : Option V} (k : Core K F ts σ H A) (hi : i < ts.length) : ∃ A', Core K F (ts.set i none) (σ.set i w) H A' ∧ ∀ a ∈ A', a ∈ A := by
  obtain ⟨A₀, p, h⟩ := k.rp
  obtain ⟨A1, h1, B, p1⟩ := h.drop i
  have hp : A.Perm (B ++ A1) := p.symm.trans p1
  have sub : ∀ a ∈ A1, a ∈ A := fun a ha => hp.mem_iff.mpr (List.mem_append_right _ ha)
  have nd : A1.Nodup := (List.nodup_append.mp (hp.nodup_iff.mp k.nd)).2.1
  refine ⟨A1, ⟨nd, fun a ha => k.dj a (sub a ha), k.fa, A1, List.Perm.refl _, ?_⟩, sub⟩
  exact (OwS.skip i w h1 (by rw [List.getElem?_set_self hi])).stay (stay_less fun a x => x.imp id (sub a)) fun _ _ => rfl
/-- a new object beside -/
theorem Core.aside {p : Addr} {o : HO} (k : Core K F ts σ H A) (hp : H p = none) : Core K F ts σ (upd H p o) A := by
  obtain ⟨A₀, q, w⟩ := k.rp
  refine ⟨k.nd, k.dj, fun a f => ?_, A₀, q, w.stay (fun b o e n => ⟨upd_keep hp b o e, n⟩) fun a ha => ?_⟩
  · obtain ⟨xs, e⟩ := k.fa a f
    exact ⟨xs, upd_keep hp _ _ e⟩
  · obtain ⟨xs, e⟩ := w.there a ha
    rw [e, upd_keep hp _ _ e]
end
def iRz (i : Nat) (W : WI) : WI := fun ts Q => W ts fun ds ts1 => Q ds (ts1.set i none)
def iGiv (ds : List PyData) : WI := fun ts Q => Q ds ts
/-- x = range(a, b); return [.. for tg in x ..] -/
theorem sss_rng {X : Cx} {J : List Nat} {Y : WY} {i n : Nat} {vs : List Nat} {x : Str} {own : List (Str × Nat)} {scope : Scope} {e e' elt tg : Expr} {ifs : List Expr} {p1 p2 p3 p4 p5 p6 p7 : Pos} {wa wb : WO} {G : WG} {Tt : WT} {We : WE}
    (hc : X.calm = true) (hN : X.N.Nodup) (hn : X.N.length = n) (hv : own.map (·.2) = vs) (hx : X.N[i]? = some x) (hloc : Loc X.env.scope x) (hvis : Vis X.env.scope x) (hj : i ∉ J)
    (hgR : Gl X "range") (hmR : X.mg "range" = none) (ha : SO X e wa) (hb : SO X e' wb) (ok : BlkOk X.N X.env.scope scope own)
    (hg : ∀ (s : Shared) (H : Hp) (C : Addr) (cl : List (Str × Addr)) (fp : List Addr), SG (X.blk s H scope (compEnvC scope cl C X.env) fp) (others n vs) tg G)
    (ht : ∀ (s : Shared) (H : Hp) (C : Addr) (cl : List (Str × Addr)) (fp : List Addr), STs (X.blk s H scope (compEnvC scope cl C X.env) fp) ifs Tt)
    (he : ∀ (s : Shared) (H : Hp) (C : Addr) (cl : List (Str × Addr)) (fp : List Addr), SE (X.blk s H scope (compEnvC scope cl C X.env) fp) elt We)
    (hf : X.fn x = true ∨ X.env.scope.names.lookup x = some .local) (hd : (x == ("__debug__" : Str)) = false) (hcd : (x == ("__classdict__" : Str)) = false)
    (hsw : swapsWith (.Call (.Name "range" p2) [e, e'] [] p3) (some (.Name x p1)) p4.line X.env = pure false := by rfl)
    (hfs : ∀ y, foldedSetIterable (.Name x p5) X.env y = pure y := by intro _; rfl)
    (hs : starEach [e, e'] X.env = [(false, eval e X.env), (false, eval e' X.env)] := by rfl) (hs2 : starEach [e'] X.env = [(false, eval e' X.env)] := by rfl) :
    SSsY Y X J [.Assign [.Name x p1] (.Call (.Name "range" p2) [e, e'] [] p3) p4, .Return (some (.ListComp elt [⟨tg, .Name x p5, ifs, 0⟩] scope p6)) p7] (wRet (eLc (iRz i (iR2 wa wb)) G Tt We vs)) := by
  have mg : MoG G := (hg X.s_0 (fun _ => none) 0 [] []).mo
  have mt : Mo Tt := (ht X.s_0 (fun _ => none) 0 [] []).mo
  have me : Mo We := (he X.s_0 (fun _ => none) 0 [] []).mo
  subst hv
  have m2 : Mo (iR2 wa wb) := fun _ _ _ k => ha.mo _ _ _ fun c t => hb.mo _ _ _ fun c2 t2 => resP_mo fun o => resP_mo fun o2 ⟨i, j, e, l, a1, a2, q⟩ => ⟨i, j, e, l, a1, a2, k _ _ q⟩
  have mz : Mo (iRz i (iR2 wa wb)) := fun _ _ _ k => m2 _ _ _ fun _ _ => k _ _
  refine ⟨fun _ _ _ l => lc_mo mz mg mt me _ _ _ fun _ _ => l.rt _ _, fun F io hio => ⟨fun pins s σ H D I q => ?_⟩⟩
  have call := pe_callTy (X := X) (p := p2) (pos := p3) cr_range2 hgR hmR rfl (pa_cons (ha.run F) (pa_cons (hb.run F) pa_nil (by rw [hs2]; rfl)) (by rw [hs, hs2])) (by decide) (by decide) (by rw [hs, hs2]) (by rw [hs2]; rfl)
  have st1 := ps_set (pos := p4) (pos' := p1) hN hx hloc call hsw hf
  have lc := pe_lc (pos := p6) (te := rdEx X.K We) (tt := rdTx X.K Tt) (g := rdGx X.K (others n (own.map (·.2))) G) hc hN (pi_rngv (pe_var hx hvis hd hcd)) ok (fun s H C cl fp => (hg s H C cl fp).ex) (fun s H C cl fp => (ht s H C cl fp).ex) (fun s H C cl fp => (he s H C cl fp).ex) hfs
  refine (pss_cons st1 (pss_one (ps_ret (pos := p7) lc))).run pins s σ H D I ?_
  obtain ⟨ts, A, k, p, q⟩ := q
  have hlen : ts.length = n := by have := k.len; have := I.len; omega
  have hi : i < n := by rw [← hn]; exact (List.getElem?_eq_some_iff.mp hx).1
  refine ⟨ts, A, k, ha.mo _ _ _ (fun c ts1 q v H1 A1 k1 g1 r1 => ?_) q⟩
  refine ⟨ts1, A1, k1, hb.mo _ _ _ (fun c2 ts2 q v2 H2 A2 k2 g2 r2 => ?_) q⟩
  obtain ⟨o, ho, q⟩ := cap_res k2 (r1.keep k1 g2) q
  obtain ⟨o2, ho2, lo, hi', e1, e2, ⟨l1, l2⟩, ⟨l3, l4⟩, q⟩ := cap_res k2 r2 q
  refine ⟨lo, hi', by rw [opn_int ho e1, opn_int ho2 e2], fun a hp => ?_⟩
  have hlen2 : ts2.length = n := by have := k2.len; have := I.len; omega
  obtain ⟨A3, k3, s3⟩ := Core.bind (i := i) (w := some (.ref a)) k2 (by omega)
  have k4 := k3.aside (o := .rng lo hi') hp
  have g4 : Chg A H A3 (upd H2 a (.rng lo hi')) := by
    have g := g1.trans g2
    exact ⟨fun b o e n => upd_keep hp b o (g.ext b o e n), fun y hy => g.sub y (s3 y hy)⟩
  have hl3 : (σ.set i (some (V.ref a))).length = n := by rw [List.length_set]; exact I.len.trans hn
  have q0 : eLc (iGiv (rngD lo hi')) G Tt We (own.map (·.2)) (ts2.set i none) (fun c ts1 => contR X.K Y F io H A D.rt c ts1) := q
  have mgv : Mo (iGiv (rngD lo hi')) := fun _ _ _ k => k _ _
  have q1 : rdE X.K F (eLc (iGiv (rngD lo hi')) G Tt We (own.map (·.2))) (σ.set i (some (V.ref a))) (upd H2 a (.rng lo hi')) D.rt :=
    ⟨ts2.set i none, A3, k4, lc_mo mgv mg mt me _ _ _ (fun c ts5 q v H5 A5 B k5 nb fb g5 w => q.1 v _ H5 A5 B k5 nb fb (g4.trans g5) (pin_set hio hj p) w) q0⟩
  have key := rd_lc mgv mg mt me hl3 q1
  obtain ⟨ts6, A6, k6, q6⟩ := key
  refine ⟨V.ref a, by rw [List.getElem?_set_self (by rw [I.len, hn]; exact hi)], a, lo, hi', rfl, upd_same, ⟨l1, l2, l3, l4⟩, ?_⟩
  exact q6 _ _ _ _ k6 Chg.refl wk_rng1 trivial
/-! ### dividing by what may be below 0 -/
def fDivN : F2 := fun o p Q => match o.1, p.1 with
  | .int i, .int j => (j ≠ 0 ∧ j.natAbs < 1073741824) ∧ Q (.int (i.fdiv j), .full)
  | _, _ => False
theorem sd_divN {K} : Sd2 K fDivN (rI CDivN fun i j => V.int (i.fdiv j)) := by
  refine ⟨by intro o p Q Q' k h; obtain ⟨d, b⟩ := o; obtain ⟨e, c⟩ := p; cases d <;> cases e <;> first | exact False.elim h | exact ⟨h.1, k _ h.2⟩, fun H M x y o p Q hM ho hp h => ?_⟩
  obtain ⟨d, b⟩ := o
  obtain ⟨e, c⟩ := p
  cases d <;> cases e <;> first | exact False.elim h | exact ⟨_, _, opn_int ho rfl, opn_int hp rfl, h.1, q_int h.2⟩
end TV
end
set_option Elab.async false
set_option linter.all false
set_option maxRecDepth 100000
set_option maxHeartbeats 1000000
/-! Part 27: f(x, e): f changes x in place, what e makes is f's own. -/
section
namespace TV
open PySem PySem.Spec L2
def eCallOw (S : FSpec) (i : Nat) (We : WE) : WE := fun ts Q => (∃ c, ts[i]? = some (some c)) ∧ We ts fun d ts1 => ∃ c, ts1[i]? = some (some c) ∧ S [c, d] fun r fins => ∃ c', fins = [c'] ∧ Q r (ts1.set i (some c'))
theorem eCallOw_k {S : FSpec} {i : Nat} {We : WE} {ts : TSt} {Q : TVal → TSt → Prop} (h : ∀ K : TVal → TSt → Prop, K = Q → (∃ c, ts[i]? = some (some c)) ∧ We ts fun d ts1 => ∃ c, ts1[i]? = some (some c) ∧ S [c, d] fun r fins => ∃ c', fins = [c'] ∧ K r (ts1.set i (some c'))) : eCallOw S i We ts Q := h Q rfl
section
variable {X : Cx} {k : Nat} {f : Addr} {fd : FuncData} {ps : List Str} {S : FSpec} {x : Str} {pos : Pos} {e e' : Expr} {We : WE} {i : Nat}
theorem se_callOw (mS : FSok ps.length S) (Fk : FnOk X.prog X.w X.K X.mg X.base CX0 k f fd ps (spT X.K ps.length [0] S)) (hr : Room k X.A) (hg : Gl X x) (hm : X.mg x = some (.ref f)) (hk : PySem.W.keepIn X.K (.ref f) = true) (hb : Binds X.K fd ps []) (h0 : PE X e (tVar i)) (h : SE X e' We)
    (hdb : (x == ("__debug__" : Str)) = false := by decide) (he : starEach [e, e'] X.env = (false, eval e X.env) :: starEach [e'] X.env := by rfl) (he2 : starEach [e'] X.env = (false, eval e' X.env) :: starEach [] X.env := by rfl) (hpl : (backTo pos (starEach [e'] X.env)).any (·.1) = false := by rfl) : SE X (.Call (.Name x p) [e, e'] [] pos) (eCallOw S i We) := by
  refine ⟨fun ts Q Q' k ⟨h1, q⟩ => ⟨h1, h.mo _ _ _ (fun d ts1 ⟨c, e, q⟩ => ⟨c, e, mS.mo _ _ _ (fun r fins ⟨c', ef, q⟩ => ⟨c', ef, k _ _ q⟩) q⟩) q⟩, fun F => pe_weak (pe_call Fk hr hg hm hk hb .nil pass0 (pa_cons h0 (pa_cons (h.run F) pa_nil he2) he) hdb he hpl) ?_⟩
  rintro σ H Q ⟨ts, A, k0, ⟨c0, e0⟩, q⟩
  obtain ⟨v0, _, _, hσ, _⟩ := k0.take e0
  refine ⟨v0, hσ, ts, A, k0, h.mo _ _ _ (fun d ts1 ⟨c, e1, q⟩ v H1 A1 B k1 nB fB g1 w => ?_) q⟩
  show spT X.K ps.length [0] S ([v0, v] ++ []) H1 Q E0
  rw [List.append_nil]
  obtain ⟨v', B0, A2, hσ', w0, hp, k2, nb0, fb0⟩ := k1.take e1
  rw [hσ] at hσ'
  cases hσ'
  have hi : i < ts1.length := (List.getElem?_eq_some_iff.mp e1).1
  have inB0 : ∀ a ∈ B0, a ∈ A1 := fun a ha => hp.mem_iff.mpr (List.mem_append_left _ ha)
  have inA2 : ∀ a ∈ A2, a ∈ A1 := fun a ha => hp.mem_iff.mpr (List.mem_append_right _ ha)
  have kA : Core X.K (fun a => F a ∨ a ∈ A2) ([c, d].map some) ([v0, v].map some) H1 (B0 ++ B) := by
    refine ⟨List.nodup_append.mpr ⟨nb0, nB, fun a ha b hb e => fb0 a ha (.inr (e ▸ hb))⟩, fun a ha f => ?_, fun a f => ?_, B0 ++ (B ++ []), by rw [List.append_nil], .sv (Ow.stay (stay_less fun a x => ?_) _ _ _ _ w0 fun _ _ => rfl) (.sv (Ow.stay (stay_less fun a x => ?_) _ _ _ _ w fun _ _ => rfl) .nil)⟩
    · rcases List.mem_append.mp ha with ha | ha
      · exact f.elim (fun f => fb0 a ha (.inl f)) fun h => k2.dj a h (.inr ha)
      · exact f.elim (fB a ha) fun h => k2.dj a h (.inl (.inr ha))
    · exact f.elim (fun f => k1.fa a (.inl f)) (k2.there a)
    · rcases x with (x | x) | x
      · exact .inl (.inl x)
      · exact .inr (inA2 a x)
      · rcases List.mem_append.mp x with x | x
        · exact .inr (inB0 a x)
        · exact .inl (.inr x)
    · rcases x with (x | x) | x
      · exact .inl (.inl x)
      · exact .inr (inA2 a x)
      · rcases List.mem_append.mp x with x | x
        · exact .inr (inB0 a x)
        · exact .inl (.inr x)
  refine ⟨(mS.len _ _ q), fun a => F a ∨ a ∈ A2, B0 ++ B, [c, d], kA, mS.mo _ _ _ (fun r fins ⟨c', ef, q⟩ u H' A' B' R => ?_) q⟩
  subst ef
  have wf : Ow X.K H' (fun a => (F a ∨ a ∈ A2) ∨ a ∈ A' ++ B') c'.2 v0 c'.1 A' := by
    have h := R.fin
    unfold pick at h
    cases h with
    | cons h r => cases r; rw [List.append_nil] at h ⊢; exact h
  have thB : ∀ a ∈ B', ∃ xs, H' a = some (.lst xs) := Ow.there _ _ _ _ R.ow
  have thA : ∀ a ∈ A', ∃ xs, H' a = some (.lst xs) := Ow.there _ _ _ _ wf
  obtain ⟨nA', nB', dAB⟩ := List.nodup_append.mp R.nd
  have fB' : ∀ a ∈ B', ¬ F a := fun a ha f => R.dj a (List.mem_append_right _ ha) (.inl f)
  have nB0 : ∀ a ∈ B0 ++ B, ¬ F a := fun a ha f => (List.mem_append.mp ha).elim (fun h => fb0 a h (.inl f)) fun h => fB a h f
  have kx : Core X.K (fun a => F a ∨ a ∈ B0 ++ B) (ts1.set i none) σ H1 A2 := by
    have e : (fun a => F a ∨ a ∈ B0 ++ B) = fun a => (F a ∨ a ∈ B) ∨ a ∈ B0 := by
      funext a
      rw [List.mem_append]
      exact propext ⟨fun h => h.elim (fun h => .inl (.inl h)) fun h => h.elim .inr fun h => .inl (.inr h), fun h => h.elim (fun h => h.elim .inl fun h => .inr (.inr h)) fun h => .inr (.inl h)⟩
    rw [e]
    exact k2
  have ky := io_core (A' := A') (B := B') kx (fun b o e n => R.chg.ext b o e n) R.chg.sub nB0 thB thA
  have wfx : Ow X.K H' (fun a => ((F a ∨ a ∈ B') ∨ a ∈ A') ∨ a ∈ A2) c'.2 v0 c'.1 A' := by
    refine Ow.stay (stay_less fun b x => ?_) _ _ _ _ wf fun _ _ => rfl
    rcases x with ((x | x) | x) | x
    · exact .inl (.inl x)
    · exact .inr (List.mem_append_right _ x)
    · exact .inr (List.mem_append_left _ x)
    · exact .inl (.inr x)
  obtain ⟨A4, k4, s4⟩ := ky.put (v := v0) (c := c') nA' (fun a ha f => f.elim (fun f => R.dj a (List.mem_append_left _ ha) (.inl f)) fun h => dAB a ha a h rfl) (by rw [List.length_set]; exact hi) wfx
  · rw [set_noop hσ, List.set_set] at k4
    refine q u H' A4 B' k4 nB' fB' (g1.trans ⟨fun b o e n => R.chg.ext b o e fun h => n ?_, fun y hy => ?_⟩) (Ow.stay (stay_less fun b x => ?_) _ _ _ _ R.ow fun _ _ => rfl)
    · rcases List.mem_append.mp h with h | h
      · exact List.mem_append_left _ (inB0 b h)
      · exact List.mem_append_right _ h
    · have up : y ∈ A' ++ B' → y ∈ A1 ++ B ∨ H1 y = none := fun h => (R.chg.sub y h).imp (fun h => (List.mem_append.mp h).elim (fun h => List.mem_append_left _ (inB0 y h)) fun h => List.mem_append_right _ h) id
      rcases List.mem_append.mp hy with hy | hy
      · rcases s4 y hy with h | h
        · exact .inl (List.mem_append_left _ (inA2 y h))
        · exact up (List.mem_append_left _ h)
      · exact up (List.mem_append_right _ hy)
    · rcases x with (x | x) | x
      · exact .inl (.inl x)
      · exact .inr (List.mem_append_right _ x)
      · rcases s4 b x with h | h
        · exact .inl (.inr h)
        · exact .inr (List.mem_append_left _ h)
end
end TV
end
set_option Elab.async false
set_option linter.all false
set_option maxRecDepth 100000
set_option maxHeartbeats 1000000
/-! Part 28: a written dict of the module, read by a text. -/
section
namespace TV
open PySem PySem.Spec L2

def KdV (K : PySem.W.Frag) (ad : Addr) (s : Str) (d : PyData) : Prop := ∃ v u, PySem.W.nsIn K ad s = some (some u) ∧ RelV v u ∧ ∀ H M, Rp K H M v d
def KdC (K : PySem.W.Frag) (w : World) (mg : Str → Option Value) (x : Str) (kvs : List (Str × PyData)) : Prop :=
  ∃ p, mg x = some (.ref p) ∧ ∀ s d, kvs.lookup s = some d → ∃ v, KDct K w p s v ∧ ∀ H M, Rp K H M v d
section
variable {K : PySem.W.Frag} {w : World} {mg : Str → Option Value} {x s : Str} {ad : Addr} {d : PyData} {kvs : List (Str × PyData)}
theorem kdvInt {i : Int} {t : Tok} (h : PySem.W.nsIn K ad s = some (some (.int i t))) : KdV K ad s (.int i) := ⟨.int i, _, h, ⟨t, rfl⟩, fun _ _ => .int i⟩
theorem kdvStr {z : Str} {t : Tok} (h : PySem.W.nsIn K ad s = some (some (.str z t))) : KdV K ad s (.str z) := ⟨.str z, _, h, ⟨t, rfl⟩, fun _ _ => .str z⟩
theorem kdvTup {a : Addr} {dd : Option Addr} {its : Array Value} {n : Nat} {ss : Array (Option Value)} {vs : List V} {ds : List PyData} (h : PySem.W.nsIn K ad s = some (some (.ref a))) (l : K.lookup a = some ⟨.type "tuple", dd, .seq its n, ss⟩) (hz : its.size ≤ sizeLine) (r : Vals vs its.toList) (r2 : ∀ H M, RpAll K H M vs ds) : KdV K ad s (.tuple ds) :=
  ⟨.ref a, _, h, rfl, fun H M => .tup (.inr ⟨_, its, n, l, rfl, rfl, hz, r⟩) (r2 H M)⟩
theorem kdv_nil : ∀ s d, ([] : List (Str × PyData)).lookup s = some d → KdV K ad s d := fun _ _ h => by cases h
theorem kdv_cons {s0 : Str} {d0 : PyData} (h : KdV K ad s0 d0) (r : ∀ s d, kvs.lookup s = some d → KdV K ad s d) : ∀ s d, ((s0, d0) :: kvs).lookup s = some d → KdV K ad s d := fun s d e => by
  rw [List.lookup_cons] at e
  split at e
  · rename_i q
    cases Option.some.inj e
    rw [eq_of_beq q]
    exact h
  · exact r s d e
theorem kdc_mk {es : Array DictEntry} {n : Nat} (y : mg x = some (.ref ad)) (l : K.lookup ad = some ⟨.type "dict", none, .dict es n, #[]⟩) (kl : PySem.W.KeysLit w.params es.toList) (h : ∀ s d, kvs.lookup s = some d → KdV K ad s d) : KdC K w mg x kvs :=
  ⟨ad, y, fun s d e => by
    obtain ⟨v, u, h1, h2, h3⟩ := h s d e
    exact ⟨v, ⟨es, n, u, l, kl, h1, h2⟩, h3⟩⟩
end
def fKd (kvs : List (Str × PyData)) : F1 := fun o Q => match o.1 with
  | .str s => ∃ d, kvs.lookup s = some d ∧ Q (d, .fz)
  | _ => False
theorem se_kd {X : Cx} {x : Str} {b : Expr} {p pos : Pos} {kvs : List (Str × PyData)} {wb : WO} (h : KdC X.K X.w X.mg x kvs) (hg : Gl X x) (hb : SO X b wb) (hs : PlainIx b) (hdb : (x == ("__debug__" : Str)) = false := by decide) : SE X (.Subscript (.Name x p) b pos) (e1 (fKd kvs) wb) := by
  obtain ⟨ad, hm, hk⟩ := h
  have s1 : Sd1 X.K (fKd kvs) (fun y H Q => rIxD X.K X.w (.ref ad) y H Q) := by
    refine ⟨fun o Q Q' k h => ?_, fun H M y o Q hM ho h => ?_⟩
    · obtain ⟨d, b⟩ := o
      cases d <;> first | exact False.elim h | (obtain ⟨d, e, q⟩ := h; exact ⟨d, e, k _ q⟩)
    · obtain ⟨d, b⟩ := o
      cases d <;> first | exact False.elim h | skip
      obtain ⟨d, e, q⟩ := h
      obtain ⟨v, h1, h2⟩ := hk _ _ e
      exact ⟨ad, _, v, rfl, opn_str ho rfl, h1, q_rp q (h2 _ _)⟩
  exact ⟨e1_mo s1.mo hb.mo, fun F => pe_weak (pe_ix ix_kdict (pe_glob (v := V.ref ad) hg hm rfl hdb) (hb.run F) hs) fun _ _ _ => rd_e1 s1 hb.mo⟩
end TV
end
set_option Elab.async false
set_option linter.all false
set_option maxRecDepth 100000
set_option maxHeartbeats 1000000
/-! Part 29: min, max of a list of like data (tuples, texts). -/
section
namespace TV
open PySem PySem.Spec L2
open PySem.W (minD maxD AlikeAll alike dataLt)

def rMinX (K : PySem.W.Frag) (f : PyData → List PyData → PyData) : List V → Hp → VK → Prop := fun vs H Q => ∃ (a : Addr) (xs : List V) (d : PyData) (ds : List PyData), vs = [V.ref a] ∧ SqL K H a xs ∧ DpAll K H xs (d :: ds) ∧ AlikeAll (d :: ds) ∧ PyData.depthAll (d :: ds) ≤ 60 ∧ ∀ v, Dp K H v (f d ds) → Q v H
theorem dpAll_at {K : PySem.W.Frag} {H : Hp} : ∀ {xs : List V} {ds : List PyData}, DpAll K H xs ds → ∀ (i : Nat) v, xs[i]? = some v → ∃ d, ds[i]? = some d ∧ Dp K H v d
  | _, _, .nil, _, _, h => by simp at h
  | _, _, .cons h1 h2, 0, v, h => by
    cases Option.some.inj (show some _ = some v from h)
    exact ⟨_, rfl, h1⟩
  | _, _, .cons h1 h2, i + 1, v, h => dpAll_at h2 i v (by simpa using h)
theorem vals_at : ∀ {xs : List V} {us : List Value}, Vals xs us → ∀ (i : Nat) u, us[i]? = some u → ∃ v, xs[i]? = some v ∧ RelV v u
  | _, _, .nil, _, _, h => by simp at h
  | _, _, .cons h1 h2, 0, v, h => by
    cases Option.some.inj (show some _ = some v from h)
    exact ⟨_, rfl, h1⟩
  | _, _, .cons h1 h2, i + 1, v, h => vals_at h2 i v (by simpa using h)
theorem cr_minX {X : Cx} (hc : X.calm = true) (hu : X.A.units + 65 < cLine) : CallR X (.builtin "min") (rMinX X.K minD) := by
  intro pins s σ H vs us Q I r h
  obtain ⟨a, xs, d, ds, rfl, hs, hd, ha, hdep, q⟩ := h
  obtain ⟨its, rv, hl, hz⟩ := I.list hs
  rw [Vals.ref1 r]
  obtain ⟨as, hr⟩ := Dp.readsAll I (d :: ds) xs its hd rv
  refine PySem.W.min_list_data (I.ok.hd hc) hl.isList (by simpa using hr) ha (by omega) fun i v h' tk bs hv hrd hk => ?_
  obtain ⟨x, hx, rx⟩ := vals_at rv i v (by simpa using hv)
  obtain ⟨e, he, hde⟩ := dpAll_at hd i x hx
  obtain ⟨bs', hre⟩ := Dp.reads I e x v hde rx
  have : e = minD d ds := (PySem.Reads.unique (PySem.W.reads_keeps hk hre) _ _ hrd).1
  subst this
  exact ⟨x, H, I.kept hk, rx, q x hde⟩
theorem cr_maxX {X : Cx} (hc : X.calm = true) (hu : X.A.units + 65 < cLine) : CallR X (.builtin "max") (rMinX X.K maxD) := by
  intro pins s σ H vs us Q I r h
  obtain ⟨a, xs, d, ds, rfl, hs, hd, ha, hdep, q⟩ := h
  obtain ⟨its, rv, hl, hz⟩ := I.list hs
  rw [Vals.ref1 r]
  obtain ⟨as, hr⟩ := Dp.readsAll I (d :: ds) xs its hd rv
  refine PySem.W.max_list_data (I.ok.hd hc) hl.isList (by simpa using hr) ha (by omega) fun i v h' tk bs hv hrd hk => ?_
  obtain ⟨x, hx, rx⟩ := vals_at rv i v (by simpa using hv)
  obtain ⟨e, he, hde⟩ := dpAll_at hd i x hx
  obtain ⟨bs', hre⟩ := Dp.reads I e x v hde rx
  have : e = maxD d ds := (PySem.Reads.unique (PySem.W.reads_keeps hk hre) _ _ hrd).1
  subst this
  exact ⟨x, H, I.kept hk, rx, q x hde⟩
def fMinX (f : PyData → List PyData → PyData) : F1 := fun o Q => match o.1 with
  | .list [] => False
  | .list (d :: ds) => noList (f d ds) = true ∧ AlikeAll (d :: ds) ∧ PyData.depthAll (d :: ds) ≤ 60 ∧ Q (f d ds, .fz)
  | _ => False
theorem sd_minX {K} {f : PyData → List PyData → PyData} : SdN K (on1 (fMinX f)) (rMinX K f) := by
  refine sdN1 (fun o Q Q' k h => ?_) fun H M x o Q hM ho h => ?_
  · obtain ⟨d, b⟩ := o
    cases d <;> first | exact False.elim h | skip
    rename_i l
    cases l with
    | nil => exact False.elim h
    | cons d ds => exact ⟨h.1, h.2.1, h.2.2.1, k _ h.2.2.2⟩
  · obtain ⟨d, b⟩ := o
    cases d <;> first | exact False.elim h | skip
    rename_i l
    cases l with
    | nil => exact False.elim h
    | cons d ds =>
      obtain ⟨a, xs, rfl, s, r⟩ := opn_lstD ho rfl
      exact ⟨a, xs, d, ds, rfl, s, r, h.2.1, h.2.2.1, fun v hv => q_rp h.2.2.2 (dp_flat hM _ _ hv h.1)⟩
/-! pairs of numbers -/
def tup2 (p : Int × Int) : PyData := .tuple [.int p.1, .int p.2]
def lt2 (a b : Int × Int) : Bool := decide (a.1 < b.1 ∨ (a.1 = b.1 ∧ a.2 < b.2))
def min2 (x : Int × Int) (xs : List (Int × Int)) : Int × Int := xs.foldl (fun a y => if lt2 y a = true then y else a) x
theorem minD_tup2 : ∀ (xs : List (Int × Int)) (x : Int × Int), minD (tup2 x) (xs.map tup2) = tup2 (min2 x xs)
  | [], _ => rfl
  | y :: xs, x => by
    show minD (if dataLt (tup2 y) (tup2 x) = true then tup2 y else tup2 x) (xs.map tup2) = tup2 (min2 (if lt2 y x = true then y else x) xs)
    have e : dataLt (tup2 y) (tup2 x) = lt2 y x := PySem.W.dataLt_ii _ _ _ _
    rw [e]
    by_cases h : lt2 y x = true
    · rw [if_pos h, if_pos h]; exact minD_tup2 xs y
    · rw [if_neg h, if_neg h]; exact minD_tup2 xs x
theorem alike_tup2 (xs : List (Int × Int)) : AlikeAll (xs.map tup2) := by
  refine ⟨fun a ha b hb => ?_, fun a ha => ?_⟩
  · obtain ⟨p, -, rfl⟩ := List.mem_map.mp ha
    obtain ⟨q, -, rfl⟩ := List.mem_map.mp hb
    simp [tup2, PySem.W.alike, PySem.W.alikeAll]
  · obtain ⟨p, -, rfl⟩ := List.mem_map.mp ha
    intro h
    cases h
theorem depth_tup2 : ∀ xs : List (Int × Int), PyData.depthAll (xs.map tup2) ≤ 1
  | [] => Nat.zero_le _
  | p :: xs => by
    show max (PyData.depth (tup2 p)) (PyData.depthAll (xs.map tup2)) ≤ 1
    exact Nat.max_le.mpr ⟨by simp [tup2, PyData.depth, PyData.depthAll], depth_tup2 xs⟩
/-! the first place of a datum -/
def fIdxD : F2 := fun o p Q => match o.1 with
  | .list ds => SeqAt.shaped (.list ds) = true ∧ SeqAt.shaped p.1 = true ∧ ∃ (j : Nat) (z : PyData), ds[j]? = some z ∧ PyData.eqv z p.1 = true ∧ (∀ (m : Nat) (z' : PyData), m < j → ds[m]? = some z' → PyData.eqv z' p.1 = false) ∧ Q (.int (j : Nat), .full)
  | _ => False
theorem sd_indexD {K} : SdN K (on2 fIdxD) (fun xs H Q => ∃ x ys, xs = x :: ys ∧ rIndexD K x ys H Q) := by
  refine sdN2 (by intro o p Q Q' k h; obtain ⟨d, b⟩ := o; cases d <;> first | exact False.elim h | (obtain ⟨h1, h2, j, z, h3, h4, h5, h6⟩ := h; exact ⟨h1, h2, j, z, h3, h4, h5, k _ h6⟩)) fun H M x y o p Q hM ho hp h => ?_
  obtain ⟨d, b⟩ := o
  obtain ⟨e, c⟩ := p
  cases d <;> first | exact False.elim h | skip
  obtain ⟨h1, h2, j, z, h3, h4, h5, q⟩ := h
  obtain ⟨a, xs, rfl, s, r⟩ := opn_lstD ho rfl
  exact ⟨_, _, rfl, a, y, e, _, j, z, rfl, rfl, ho.1, hp.1, h1, h2, h3, h4, h5, q_int q⟩
theorem eqv_tup2 (a b : Int × Int) : PyData.eqv (tup2 a) (tup2 b) = decide (a = b) := by
  obtain ⟨p, q⟩ := a
  obtain ⟨r, s⟩ := b
  exact (eqv_tints [p, q] [r, s]).trans (decide_eq_decide.mpr (by simp))
theorem canLay_tup2 : ∀ xs : List (Int × Int), PyData.canLayAll0 (xs.map tup2) = true
  | [] => by rfl
  | p :: xs => by
    show (PyData.canLay0 (tup2 p) && PyData.canLayAll0 (xs.map tup2)) = true
    rw [canLay_tup2 xs]
    simp [tup2, PyData.canLay0, PyData.canLayAll0]
theorem shaped_tup2s (xs : List (Int × Int)) : SeqAt.shaped (.list (xs.map tup2)) = true := by
  unfold SeqAt.shaped
  have h1 : PyData.canLay0 (.list (xs.map tup2)) = true := by
    show PyData.canLayAll0 (xs.map tup2) = true
    exact canLay_tup2 xs
  have h2 := depth_tup2 xs
  rw [h1, Bool.true_and, decide_eq_true_eq]
  show PyData.depthAll (xs.map tup2) + 1 ≤ 64
  omega
theorem shaped_tup2 (p : Int × Int) : SeqAt.shaped (tup2 p) = true := by
  unfold SeqAt.shaped
  simp [tup2, PyData.canLay0, PyData.canLayAll0, PyData.depth, PyData.depthAll]
end TV
end
set_option Elab.async false
set_option linter.all false
set_option maxRecDepth 100000
set_option maxHeartbeats 2000000
/-! Part 30: exceptions: raise, calls that may raise, try .. except X as e. -/
section
namespace TV
open PySem PySem.Spec L2
open PyProof.Rows (envOfC)

/-- an exception as a tree: its class's name, its fields; where a def raises it, it is told as what is returned -/
def exnD (n : Str) (fs : List (Str × PyData)) : PyData := .dict ((.none, .str n) :: fs.map fun p => (.str p.1, p.2))
def isX : PyData → Bool
  | .dict ((.none, _) :: _) => true
  | _ => false
def unfs : List (PyData × PyData) → List (Str × PyData)
  | [] => []
  | (.str f, v) :: r => (f, v) :: unfs r
  | _ :: r => unfs r
def xCase (c : PyData) (k1 : Prop) (k2 : Str → List (Str × PyData) → Prop) : Prop :=
  match c with
  | .dict ((.none, .str n) :: r) => k2 n (unfs r)
  | _ => k1
theorem unfs_map : ∀ fs : List (Str × PyData), unfs (fs.map fun p => (PyData.str p.1, p.2)) = fs
  | [] => rfl
  | (f, v) :: r => by rw [List.map_cons]; show (f, v) :: unfs _ = _; rw [unfs_map r]
theorem xCase_exn {n fs k1 k2} : xCase (exnD n fs) k1 k2 = k2 n fs := by show k2 n (unfs _) = _; rw [unfs_map]
theorem isX_exn {n fs} : isX (exnD n fs) = true := rfl
theorem xCase_not {c : PyData} {k1 k2} (h : ∀ kvs, c ≠ .dict kvs) : xCase c k1 k2 = k1 := by
  cases c with
  | dict kvs => exact absurd rfl (h kvs)
  | _ => rfl
theorem xCase_or {c : PyData} {k1 : Prop} {k2 : Str → List (Str × PyData) → Prop} (h : xCase c k1 k2) : k1 ∨ ∃ n fs, k2 n fs := by
  unfold xCase at h
  split at h
  · exact .inr ⟨_, _, h⟩
  · exact .inl h
theorem xCase_mo {c : PyData} {k1 k1' : Prop} {k2 k2' : Str → List (Str × PyData) → Prop} (h1 : k1 → k1') (h2 : ∀ n fs, k2 n fs → k2' n fs) (h : xCase c k1 k2) : xCase c k1' k2' := by
  unfold xCase at h ⊢
  split
  · exact h2 _ _ h
  · rename_i hn
    split at h
    · exact absurd rfl (hn _ _)
    · exact h1 h
/-- the exception classes that are raised: names and where they stand -/
abbrev XTab := List (Str × Addr)
def XR (K : PySem.W.Frag) (T : XTab) (H : Hp) (M : Addr → Prop) (n : Str) (fs : List (Str × PyData)) (cls : Value) (d : Option Addr) : Prop :=
  ∃ C, (n, C) ∈ T ∧ cls = .ref C ∧ ∃ f v dd u, fs = [(f, v)] ∧ d = some dd ∧ H dd = some (.xd [(f, u)]) ∧ Rp K H M u v
theorem XR.stay {K T H M H' M' n fs cls d} (h : XR K T H M n fs cls d) (hM : ∀ a, M a → ∃ xs, H a = some (.lst xs)) (s : Stay H M H' M') : XR K T H' M' n fs cls d := by
  obtain ⟨C, h1, h2, f, v, dd, u, e1, e2, e3, r⟩ := h
  refine ⟨C, h1, h2, f, v, dd, u, e1, e2, (s dd _ e3 fun hm => ?_).1, Rp.stay s _ _ r⟩
  obtain ⟨xs, e⟩ := hM dd hm
  rw [e3] at e; cases e
/-- what the context wishes of an exception that leaves -/
def YOf (K : PySem.W.Frag) (T : XTab) (W : WX) : WY := fun c σ H M => ∀ n fs cls d, c = exnD n fs → (∀ a, M a → ∃ xs, H a = some (.lst xs)) → XR K T H M n fs cls d → W cls d σ H
/-- the context takes what Y tells -/
def YT (X : Cx) (Y : WY) (T : XTab) : Prop := ∃ W, L2N.Takes X W ∧ Y = YOf X.K T W

/-! ### a class whose __init__ keeps its one argument -/
def spInit (f : Str) (C : Addr) : Sp := fun vs H Q _ => ∃ a v, vs = [.ref a, v] ∧ H a = some (exo a C none) ∧ ∀ dx, H dx = none → dx ≠ a → Q .non (upd (upd H dx (exd dx [(f, v)])) a (exo a C (some dx)))
structure XCls (P : Program) (w : World) (K : PySem.W.Frag) (mg : Str → Option Value) (base : Heap) (x f : Str) (C : Addr) : Prop where
  o : OexC K C
  i : ∃ fI fd, PySem.W.findIn K (.ref C) "__init__" = some (some (.ref fI)) ∧ PySem.W.typeIn K (.ref fI) = some (.type "function") ∧ FnOk P w K mg base CX0 1 fI fd ["self", f] (spInit f C) ∧ Binds K fd ["self", f] []
  m : mg x = some (.ref C)
theorem init_ok {P : Program} {w : World} {K : PySem.W.Frag} {mg : Str → Option Value} {base : Heap} {qual f : Str} {st : Stmt} {fI C : Addr} {fd : FuncData} {p1 p2 p3 p4 : Pos} (F : Fun K "__init__" qual st fI fd) (Sc : FnScope ["self", f] ["self", f] (defScope st))
    (hb : defBody st = [.Assign [.Attribute (.Name "self" p1) f p2] (.Name f p3) p4]) (T : OexC K C) (hno : PySem.W.findIn K (.ref C) f = some none)
    (h0 : ∀ X : Cx, X.N = (["self", f] : List Str) → X.env.scope = defScope st → PE X (.Name "self" p1) (tVar 0)) (h1 : ∀ X : Cx, X.N = (["self", f] : List Str) → X.env.scope = defScope st → PE X (.Name f p3) (tVar 1))
    (hs : ∀ env, swapsWith (.Name f p3) (some (.Attribute (.Name "self" p1) f p2)) p4.line env = pure false) : FnOk P w K mg base CX0 1 fI fd ["self", f] (spInit f C) := by
  refine F.ok (k := 0) Sc (fun vs H Q E ⟨a, v, h, _⟩ => by subst h; rfl) (fun cdv A outer s H vs Q E hr ⟨a, v, e, ha, q⟩ => ?_)
  subst e
  rw [hb]
  refine ⟨_, pss_one (ps_ost (h0 _ rfl rfl) (h1 _ rfl rfl) (hs _)), ?_⟩
  exact ⟨v, rfl, .ref a, rfl, a, C, rfl, T, hno, .inl ⟨ha, fun dx hd ne => q dx hd ne⟩⟩

theorem okXN {P : Program} {w : World} {K : PySem.W.Frag} {mg : Str → Option Value} {base : Heap} {x qual : Str} {st : Stmt} {f : Addr} {fd : FuncData} {N ps : List Str} {k : Nat} {sp : Sp} (F : Fun K x qual st f fd) (S : FnScope N ps (defScope st)) (len : ∀ vs H Q E, sp vs H Q E → vs.length = ps.length)
    (hbody : ∀ (cdv : Value) (A : Around) (outer : List Env) (s : Shared) (H : Hp) (vs : List V) (Q : VK) (E : XK), Room k (A.deeper (envOfC qual (defScope st) s.heap.objs.size f cdv)) → sp vs H Q E →
      ∃ t, PSs (cxOf (L2N.CX P w) P w K mg base N qual (defScope st) f cdv A outer s H E) (defBody st) t ∧ t { nx := fun _ H' => Q .non H', rt := Q } (L2.start N vs) H) : FnOk P w K mg base (L2N.CX P w) (k + 1) f fd ps sp := by
  obtain ⟨oc, od, kV, doc, pm, an, cdv, ct, osl, rfl, lk, hcd⟩ := F.ex
  exact fn_of lk hcd S len fun A outer s H vs Q E hr hsp => hbody cdv A outer s H vs Q E hr hsp
/-! ### raise C(e) -/
theorem pmkN_oex {X : Cx} {x : Str} {C fI : Addr} {k : Nat} {fd : FuncData} {ps : List Str} {sp : Sp} {ds : List Value} {dvs : List V} {e : Expr} {es : List Expr} {ta : TA} {p pos : Pos} (T : OexC X.K C) (iC : PySem.W.findIn X.K (.ref C) "__init__" = some (some (.ref fI))) (tI : PySem.W.typeIn X.K (.ref fI) = some (.type "function"))
    (F1 : FnOk X.prog X.w X.K X.mg X.base CX0 k fI fd ps sp) (hr : Room (k + 1) X.A) (hb : Binds X.K fd ps ds) (hd : Vals dvs ds) (hg : Gl X x) (hm : X.mg x = some (.ref C)) (ha : PA X (e :: es) ta)
    (hdb : (x == ("__debug__" : Str)) = false := by decide) (he : starEach (e :: es) X.env = (false, eval e X.env) :: starEach es X.env := by rfl) (hpl : (backTo pos (starEach es X.env)).any (·.1) = false := by rfl) :
    L2N.PMk X (.Call (.Name x p) (e :: es) [] pos) (tMkO C sp dvs ta) := by
  intro pins s σ H Q I h
  obtain ⟨nm, q, N, bs, bm, sn, sub, ab, col, dd, k0, k1, k2, k3, k5, hC, hbm⟩ := T.cls
  refine wpAny_Call_Name_kw (ld_glob I hg hm ?_ hdb)
  refine PySem.W.callWith_K (h₀ := X.base) I.ok.mod.kin T.kC (thn (ha.run pos pins s σ H _ I h) fun us s1 ⟨vs, H1, I1, r1, hz, q1⟩ => ⟨I1.kIn, ?_⟩) he hpl
  show wpAny _ _ (call (.ref C) us) _ _ _
  obtain ⟨hp, g, dr, tk, os⟩ := s1
  have hsz : hp.objs.size ≤ hp.objs.size + 1 := Nat.le_succ _
  have hn : H1 (hp.objs.size + 1) = none := I1.hok.fresh hsz
  have hq := q1 (hp.objs.size + 1) hn
  have kk : ∀ b o, hp.get? b = some o → ((hp.push (PySem.W.kdv_tup us)).push (PySem.HandSPX.excO C hp.objs.size)).get? b = some o := fun b o e => Heap.get?_push_of_some _ (Heap.get?_push_of_some _ e)
  have hget : ((hp.push (PySem.W.kdv_tup us)).push (PySem.HandSPX.excO C hp.objs.size)).get? (hp.objs.size + 1) = some (PySem.HandSPX.excO C hp.objs.size) := by heap_get
  have I2 : L2.Inv X pins σ (upd H1 (hp.objs.size + 1) (exo (hp.objs.size + 1) C none)) ⟨(hp.push (PySem.W.kdv_tup us)).push (PySem.HandSPX.excO C hp.objs.size), g, dr, tk, os⟩ :=
    I1.laid (t' := tk) (a := hp.objs.size + 1) (o := exo (hp.objs.size + 1) C none) (h' := (hp.push (PySem.W.kdv_tup us)).push (PySem.HandSPX.excO C hp.objs.size)) kk hsz (exo_ok hget)
  have r2 : Vals (V.ref (hp.objs.size + 1) :: (vs ++ dvs)) (Value.ref (hp.objs.size + 1) :: (us ++ ds)) := .cons rfl (r1.append hd)
  have hl : (Value.ref (hp.objs.size + 1) :: us ++ ds).length = ps.length := by
    have e := r2.length
    rw [F1.len _ _ _ _ hq] at e
    exact e.symm
  have hus : us.length ≤ sizeLine := by
    rw [← Paired.length r1, sizeLine_eq]
    omega
  refine wpAny_call (PySem.HandSPX.call_own F.excBase_ValueError (fun Y => PySem.HandSPX.refsVE_contains Y bm hbm) (I1.kIn _ _ hC) (PySem.W.looks_findIn I1.kIn iC) (fun self => PySem.W.bind_fn I1.kIn self tI) hus
    (codeAny_mono (F1.run _ X.stack _ _ ⟨Value.ref (hp.objs.size + 1) :: us, []⟩ (Value.ref (hp.objs.size + 1) :: (us ++ ds)) _ _ (fun _ _ _ => False) (hr.make C us []) (I2.env0.make C us []) (hb _ (Value.ref (hp.objs.size + 1) :: us) I2.kIn hl) r2 hq) fun r s' hq' => ?_))
  cases r with
  | error er => exact hq'.elim
  | ok fl =>
    cases fl with
    | ret u =>
      obtain ⟨v, H2, os2, bare2, un2, hok2, rv, ev, d, fs, ea, ed, hd1, q2⟩ := hq'
      subst ev
      obtain ⟨h2, g2, d2, t2, os'⟩ := s'
      obtain ⟨t0, G, J, kG, ge, hoe, na⟩ := mk_end0 (d2 := d2) (t2 := t2) I1 hsz kk un2 hok2 os2 bare2 ea ed hd1
      refine ⟨rv, hp.objs.size + 1, _, _, ⟨G, g2, d2, t2, os'⟩, _, .ref C, some d, rfl, J, kG, ge, hoe, ⟨rfl, rfl, fun vs hv => ?_⟩, rfl, rfl, na, rfl, bare2, raises_own T.exC T.tyC, q2⟩
      cases hv
      rfl
    | next => exact False.elim hq'
    | brk => exact False.elim hq'
    | cont => exact False.elim hq'
section
variable {X : Cx} {J : List Nat} {Y : WY} {T : XTab}
def wRaise (x f : Str) (We : WE) : WS := fun D ts => We ts fun c ts1 => D.rt (exnD x [(f, c.1)], .fz) ts1
theorem exo_end {H1 : Hp} {a dx C : Addr} {f : Str} {v : V} (ha : H1 a = none) (ne : dx ≠ a) : upd (L2.del (upd (upd (upd H1 a (exo a C none)) dx (exd dx [(f, v)])) a (exo a C (some dx))) a) dx (.xd [(f, v)]) = upd H1 dx (.xd [(f, v)]) := by
  funext b
  by_cases hb : b = dx
  · rw [hb, upd_same, upd_same]
  · rw [upd_ne hb, upd_ne hb]
    by_cases h2 : b = a
    · rw [h2, del_same, ha]
    · rw [del_ne h2, upd_ne h2, upd_ne hb, upd_ne h2]
theorem ss_raise {x f : Str} {C : Addr} {e : Expr} {We : WE} {p pos pos2 : Pos} (hc : X.calm = true) (hY : YT X Y T) (XC : XCls X.prog X.w X.K X.mg X.base x f C) (hT : (x, C) ∈ T) (hr : Room 2 X.A) (hg : Gl X x) (he : SE X e We)
    (hdb : (x == ("__debug__" : Str)) = false := by decide) (hst : starEach (e :: []) X.env = (false, eval e X.env) :: starEach [] X.env := by rfl) (hpl : (backTo pos (starEach [] X.env)).any (·.1) = false := by rfl) :
    SSY Y X J (.Raise (some (.Call (.Name x p) [e] [] pos)) none pos2) (wRaise x f We) := by
  obtain ⟨W, tk, rfl⟩ := hY
  obtain ⟨fI, fd, iC, tI, F1, hb⟩ := XC.i
  refine ⟨fun D D' ts l => he.mo _ _ _ fun _ _ => l.rt _ _, fun F io hj => ps_weak (L2N.ps_raise hc tk (pmkN_oex XC.o iC tI F1 hr hb .nil hg XC.m (pa_cons (he.run F) pa_nil hst) hdb hst hpl)) ?_⟩
  rintro D σ H ⟨ts, A, k, p, q⟩
  refine ⟨ts, A, k, he.mo _ _ _ (fun c ts1 q v H1 A1 B k1 nb fb g1 w => ?_) q⟩
  refine ⟨by show 1 ≤ 1000; decide, fun a ha => ⟨a, v, rfl, upd_same, fun dx hdx ne => ⟨rfl, dx, [(f, v)], upd_same, ?_, ?_, ?_⟩⟩⟩
  · rw [upd_ne ne, upd_same]
  · rwa [upd_ne ne] at hdx
  · rw [upd_ne ne] at hdx
    rw [exo_end ha ne]
    have k2 := k1.unpend.aside (o := .xd [(f, v)]) hdx
    have rv := give_up k1 fb w
    have g2 : Chg A H A1 (upd H1 dx (.xd [(f, v)])) := by
      have g := g1.less (A'' := A1) fun x hx => List.mem_append_left _ hx
      exact ⟨fun b o e n => upd_keep hdx b o (g.ext b o e n), g.sub⟩
    refine q.2 σ _ A1 k2 g2 p x [(f, c.1)] (.ref C) (some dx) rfl (fun a h => ?_) ⟨C, hT, rfl, f, c.1, dx, v, rfl, rfl, upd_same, Rp.stay (fun b o e n => ⟨upd_keep hdx b o e, n⟩) _ _ rv⟩
    obtain ⟨xs, e⟩ := k1.unpend.lists a h
    exact ⟨xs, upd_keep hdx _ _ e⟩
end

/-! ### defs that may raise -/
/-- the promise: a raised exception is told as a result -/
def spX (K : PySem.W.Frag) (T : XTab) (n : Nat) (S : FSpec) : Sp := fun vs H Q E => vs.length = n ∧ ∃ F A cs, Core K F (cs.map some) (vs.map some) H A ∧ S cs fun r fins =>
  (∀ v H' A' B, RetO K F H A [] r fins v H' A' B → Q v H') ∧ ∀ H' A' nm fs cls d, Chg A H A' H' → r.1 = exnD nm fs → (∀ a, (F a ∨ a ∈ A') → ∃ xs, H' a = some (.lst xs)) → XR K T H' (fun a => F a ∨ a ∈ A') nm fs cls d → E cls d H'
section
variable {P : Program} {w : World} {K : PySem.W.Frag} {mg : Str → Option Value} {base : Heap}
/-- the context of the body of a def that may raise -/
abbrev cxX (P : Program) (w : World) (K : PySem.W.Frag) (mg : Str → Option Value) (base : Heap) (N : List Str) (qual : Str) (scope : Scope) (f : Addr) (cd : Value) (A : Around) (outer : List Env) (s : Shared) (H : Hp) (E : XK) : Cx := cxOf (L2N.CX P w) P w K mg base N qual scope f cd A outer s H E
abbrev YE (K : PySem.W.Frag) (T : XTab) (E : XK) : WY := YOf K T fun cls d _ H => E cls d H
theorem fn_okX {x qual : Str} {st : Stmt} {f : Addr} {fd : FuncData} {N ps : List Str} {k : Nat} {S : FSpec} {W : WS} {T : XTab} (F : Fun K x qual st f fd) (Sc : FnScope N ps (defScope st))
    (hb : ∀ (cdv : Value) (A : Around) (outer : List Env) (s : Shared) (H : Hp) (E : XK), Room k (A.deeper (envOfC qual (defScope st) s.heap.objs.size f cdv)) → SSsY (YE K T E) (cxX P w K mg base N qual (defScope st) f cdv A outer s H E) [] (defBody st) W)
    (h : ∀ cs Q, cs.length = ps.length → S cs Q → W (fnE [] Q) (cs.map some ++ List.replicate (N.length - ps.length) none)) : FnOk P w K mg base (L2N.CX P w) (k + 1) f fd ps (spX K T ps.length S) := by
  refine okXN F Sc (fun vs H Q E h => h.1) (fun cdv A outer s H vs Q E hr hs => ?_)
  obtain ⟨hl, Fo, A0, cs, c0, hS⟩ := hs
  have hc : cs.length = ps.length := by
    have := c0.len
    rw [List.length_map, List.length_map] at this
    omega
  have B := hb cdv A outer s H E hr
  have c1 : Core K Fo (cs.map some ++ List.replicate (N.length - ps.length) none) (L2.start N vs) H A0 := by
    obtain ⟨A₀, p, w⟩ := c0.rp
    refine ⟨c0.nd, c0.dj, c0.fa, A₀, p, ?_⟩
    unfold L2.start
    rw [hl]
    exact w.pad _
  refine ⟨_, B.run Fo [] rfl, _, A0, c1, fun p hp => absurd hp List.not_mem_nil, B.mo _ _ _ ⟨?_, ?_, fun _ (h : False) => h.elim, fun _ (h : False) => h.elim⟩ (h cs _ hc hS)⟩
  · intro ts' q σ' H' A' k' g' p'
    obtain ⟨fins, A2, q, w, nd, sub⟩ := fin_core (vs := []) k' q rfl (by simp)
    refine q.1 .non H' A2 [] ⟨by rw [List.append_nil]; exact nd, fun a ha => k'.dj a (sub a (by simpa using ha)), .sc rfl .non, ?_, g'.less fun x hx => sub x (by simpa using hx)⟩
    rw [List.append_nil]
    exact w
  · intro r ts' q
    refine ⟨fun v σ' H' A' B' k' nb fb g' p' wr => ?_, fun σ' H' A' k' g' p' nm fs cls d e hl xr => ?_⟩
    · obtain ⟨fins, A2, q, w, nd, sub⟩ := fin_core (vs := []) k' q rfl (by simp)
      refine q.1 v H' A2 B' ⟨List.nodup_append.mpr ⟨nd, nb, fun a ha b hb e => k'.dj a (sub a ha) (.inr (e ▸ hb))⟩, fun a ha => ?_, Ow.stay (stay_less fun a x => ?_) _ _ _ _ wr fun _ _ => rfl, w.stay (stay_less fun a x => ?_) fun _ _ => rfl, g'.less fun x hx => ?_⟩
      · exact (List.mem_append.mp ha).elim (fun y f => k'.dj a (sub a y) (.inl f)) (fb a)
      · rcases x with x | x
        · exact .inl (.inl x)
        · exact (List.mem_append.mp x).elim (fun y => .inr (sub a y)) fun y => .inl (.inr y)
      · rcases x with x | x
        · exact .inl (.inl x)
        · exact (List.mem_append.mp x).elim .inr fun y => .inl (.inr y)
      · exact (List.mem_append.mp hx).elim (fun y => List.mem_append_left _ (sub x y)) fun y => List.mem_append_right _ y
    · exact q.2 H' A' nm fs cls d g' e hl xr
/-- a def that may raise and may be called -/
def CalX (P : Program) (w : World) (K : PySem.W.Frag) (mg : Str → Option Value) (base : Heap) (T : XTab) (k : Nat) (x : Str) (ps : List Str) (S : FSpec) : Prop :=
  ∃ f fd, FnOk P w K mg base (L2N.CX P w) k f fd ps (spX K T ps.length S) ∧ CalM K mg x ps S f fd
theorem calX_mk {T : XTab} {k : Nat} {x : Str} {ps : List Str} {S : FSpec} {f : Addr} {fd : FuncData} (G : FnOk P w K mg base (L2N.CX P w) k f fd ps (spX K T ps.length S)) (ok : FSok ps.length S) (m : mg x = some (.ref f)) (kp : PySem.W.keepIn K (.ref f) = true) (b : Binds K fd ps []) : CalX P w K mg base T k x ps S := ⟨f, fd, G, ok, m, kp, b⟩
end
/-- an expression that may raise: R where it does -/
abbrev WEX := (TVal → TSt → Prop) → WE
structure SEX (Y : WY) (X : Cx) (e : Expr) (W : WEX) : Prop where
  mo : ∀ ts R R' Q Q', (∀ c t, R c t → R' c t) → (∀ c t, Q c t → Q' c t) → W R ts Q → W R' ts Q'
  run : ∀ F io, PE X e (fun σ H Q => ∃ ts A, Core X.K F ts σ H A ∧ Pin io σ ∧ W (contX X.K Y F io H A) ts (contE X.K F σ H A Q))
def eCallX (S : FSpec) (Wa : WA) : WEX := fun R ts Q => Wa ts fun cs ts1 => argT ts1 cs fun as ts2 => S as fun r _ => if isX r.1 = true then R r ts2 else if clean r = true then Q r ts1 else Q r ts2
section
variable {X : Cx} {J : List Nat} {Y : WY} {T : XTab} {k : Nat} {f : Addr} {fd : FuncData} {ps : List Str} {S : FSpec} {x : Str} {p pos : Pos} {e : Expr} {es : List Expr} {Wa : WA}
theorem ow_exn {K H M m v n fs A} (h : Ow K H M m v (exnD n fs) A) : False := by
  unfold exnD at h
  cases h with
  | fz h => cases h
  | sc e _ => simp [scalar] at e
theorem callX_mo (mS : MoF S) (ma : Mo Wa) : ∀ ts R R' Q Q', (∀ c t, R c t → R' c t) → (∀ c t, Q c t → Q' c t) → eCallX S Wa R ts Q → eCallX S Wa R' ts Q' := fun ts R R' Q Q' kr kq => ma _ _ _ fun _ _ => argT_mo fun _ _ => mS _ _ _ fun r _ q => by
  split
  · rename_i h; rw [if_pos h] at q; exact kr _ _ q
  · rename_i h
    rw [if_neg h] at q
    split
    · rename_i h2; rw [if_pos h2] at q; exact kq _ _ q
    · rename_i h2; rw [if_neg h2] at q; exact kq _ _ q
theorem callX_run {σ : St} {H0 H1 : Hp} {Q : VK} {W : WX} {F io cs vs ts1 A0 A1} (mS : FSok ps.length S) (k1 : Core X.K F ts1 σ H1 A1) (g1 : Chg A0 H0 A1 H1) (pn : Pin io σ) (r1 : CapsR X.K H1 (fun a => F a ∨ a ∈ A1) σ cs vs)
    (q : argT ts1 cs fun as ts2 => S as fun r _ => if isX r.1 = true then contX X.K (YOf X.K T W) F io H0 A0 r ts2 else if clean r = true then contE X.K F σ H0 A0 Q r ts1 else contE X.K F σ H0 A0 Q r ts2) : spX X.K T ps.length S vs H1 Q (L2.WE W σ) := by
  obtain ⟨as, ts2, A2, q, k2, sub, w⟩ := args_share k1 r1 q
  have kA : Core X.K (fun a => F a ∨ a ∈ A2) (as.map some) (vs.map some) H1 [] := by
    refine ⟨List.nodup_nil, fun _ h => absurd h List.not_mem_nil, fun a f => f.elim (k2.fa a) (k2.there a), [], List.Perm.refl _, (w.stay (stay_less fun a x => ?_) fun _ _ => rfl).toS⟩
    exact x.elim id fun h => absurd h List.not_mem_nil
  refine ⟨w.len.trans (mS.len _ _ q), fun a => F a ∨ a ∈ A2, [], as, kA, mS.mo _ _ _ (fun r fins q => ⟨fun v H' A' B R => ?_, fun H' A' nm fs cls d g e hl xr => ?_⟩) q⟩
  · obtain ⟨_, rfl⟩ := R.fin.len0 rfl
    have hx : isX r.1 ≠ true := fun h => by
      have ro := R.ow
      obtain ⟨d, m⟩ := r
      dsimp only at h ro
      unfold isX at h
      split at h
      · cases ro with
        | fz h => cases h
        | sc e _ => simp [scalar] at e
      · cases h
    rw [if_neg hx] at q
    have hsame : ∀ b o, H1 b = some o → H' b = some o := fun b o e => R.chg.ext b o e List.not_mem_nil
    have hnew : ∀ a ∈ B, H1 a = none := fun a ha => (R.chg.sub a (by simpa using ha)).resolve_left List.not_mem_nil
    have nB : B.Nodup := by simpa using R.nd
    by_cases hc : clean r = true
    · rw [if_pos hc] at q
      refine pure_contE k1 g1 q v H' B ⟨hsame, nB, hnew, Ow.anyC (fun b hb => ?_) R.ow hc⟩
      rcases hb with (hb | hb) | hb
      · exact .inl (.inl (.inl hb))
      · refine .inr ?_
        obtain ⟨xs, e⟩ := k1.there b hb
        exact ⟨xs, hsame b _ e⟩
      · exact .inl (.inr (by simpa using hb))
    · rw [if_neg hc] at q
      refine pure_contE k2 (g1.less sub) q v H' B ⟨hsame, nB, hnew, Ow.stay (stay_less fun a hb => ?_) _ _ _ _ R.ow fun _ _ => rfl⟩
      exact hb.imp id fun h => by simpa using h
  · have hx : isX r.1 = true := by rw [e]; rfl
    rw [if_pos hx] at q
    have hsame : ∀ b o, H1 b = some o → H' b = some o := fun b o e => g.ext b o e List.not_mem_nil
    obtain ⟨k3, g3, st⟩ := chg_same k2 hsame
    refine q σ H' A2 k3 ((g1.less sub).trans g3) pn nm fs cls d e (fun a h => hl a (.inl h)) (xr.stay hl (stay_less fun a h => .inl h))
theorem sex_call (mS : FSok ps.length S) (Fk : FnOk X.prog X.w X.K X.mg X.base (L2N.CX X.prog X.w) k f fd ps (spX X.K T ps.length S)) (hY : YT X Y T) (hr : Room k X.A) (hg : Gl X x) (hm : X.mg x = some (.ref f)) (hk : PySem.W.keepIn X.K (.ref f) = true) (hb : Binds X.K fd ps []) (ha : SA X (e :: es) Wa)
    (hdb : (x == ("__debug__" : Str)) = false := by decide) (he : starEach (e :: es) X.env = (false, eval e X.env) :: starEach es X.env := by rfl) (hpl : (backTo pos (starEach es X.env)).any (·.1) = false := by rfl) : SEX Y X (.Call (.Name x p) (e :: es) [] pos) (eCallX S Wa) := by
  obtain ⟨W, tk, rfl⟩ := hY
  refine ⟨callX_mo mS.mo ha.mo, fun F io => pe_weak (pe_callS Fk hr hg hm hk hb (fun σ => L2N.passAt tk σ) (ha.run F) hdb he hpl) ?_⟩
  rintro σ H Q ⟨ts, A, k0, pn, q⟩
  exact ⟨ts, A, k0, ha.mo _ _ _ (fun cs ts1 q vs H1 A1 k1 g1 r1 => callX_run mS k1 g1 pn r1 q) q⟩
/-! statements with such an expression -/
def wExprX (We : WEX) : WS := fun D ts => We D.rt ts fun _ ts1 => D.nx ts1
def wRetX (We : WEX) : WS := fun D ts => We D.rt ts fun c ts1 => D.rt c ts1
def wAsgX (We : WEX) (G : WG) : WS := fun D ts => We D.rt ts fun c ts1 => G c ts1 D.nx
variable {We : WEX}
theorem ss_exprX (h : SEX Y X e We) (hs : swapsWith e none pos.line X.env = pure false := by rfl) : SSY Y X J (.Expr e pos) (wExprX We) := by
  refine ⟨fun _ _ _ l => h.mo _ _ _ _ _ l.rt fun _ _ => l.nx _, fun F io hj => ps_weak (ps_expr (h.run F io) hs) ?_⟩
  rintro D σ H ⟨ts, A, k, p, q⟩
  exact ⟨ts, A, k, p, h.mo _ _ _ _ _ (fun c t h => h.2) (fun c ts1 q v H1 A1 B k1 nb fb g1 w => q σ H1 A1 k1.unpend (g1.less fun x hx => List.mem_append_left _ hx) p) q⟩
theorem ss_retX (h : SEX Y X e We) : SSY Y X J (.Return (some e) pos) (wRetX We) := by
  refine ⟨fun _ _ _ l => h.mo _ _ _ _ _ l.rt fun _ _ => l.rt _ _, fun F io hj => ps_weak (ps_ret (h.run F io)) ?_⟩
  rintro D σ H ⟨ts, A, k, p, q⟩
  exact ⟨ts, A, k, p, h.mo _ _ _ _ _ (fun c t h => h.2) (fun c ts1 q v H1 A1 B k1 nb fb g1 w => q.1 v σ H1 A1 B k1 nb fb g1 p w) q⟩
theorem ss_setX {i : Nat} {y : Str} {pos' : Pos} (hN : X.N.Nodup) (hi : X.N[i]? = some y) (hx : Loc X.env.scope y) (hn : i ∉ J) (he : SEX Y X e We) (hs : swapsWith e (some (.Name y pos')) pos.line X.env = pure false := by rfl)
    (hf : X.fn y = true ∨ X.env.scope.names.lookup y = some .local := by first | exact .inl rfl | exact .inr rfl | assumption) : SSY Y X J (.Assign [.Name y pos'] e pos) (wAsgX We (gN i)) := by
  refine ⟨fun _ _ _ l => he.mo _ _ _ _ _ l.rt fun _ _ h => ⟨h.1, l.nx _ h.2⟩, fun F io hj => ps_weak (ps_set hN hi hx (he.run F io) hs hf) fun D σ H h => ?_⟩
  obtain ⟨ts, A, k, p, q⟩ := h
  refine ⟨ts, A, k, p, he.mo _ _ _ _ _ (fun c t h => h.2) (fun c ts1 q v H1 A1 B k1 nb fb g1 w => ?_) q⟩
  obtain ⟨hl, q⟩ := q
  obtain ⟨A', k', sub⟩ := k1.put nb fb hl w
  refine q _ H1 A' k' (g1.trans ⟨fun _ _ e _ => e, fun x hx => .inl (List.mem_append.mpr (sub x hx))⟩) fun y hy => ?_
  exact pin_set hj hn p y hy
theorem ss_asgX {tg : Expr} {G : WG} (he : SEX Y X e We) (hg : SG X J tg G) (hs : swapsWithSole [tg] e pos.line X.env = pure false := by rfl) (hw : swappedStores [tg] e X.env = pure none := by rfl) (h1 : (assignEach [tg] X.env).map (·.2) = [assign tg X.env] := by rfl) : SSY Y X J (.Assign [tg] e pos) (wAsgX We G) := by
  refine ⟨fun _ _ _ l => he.mo _ _ _ _ _ l.rt fun _ _ => hg.mo _ _ _ _ l.nx, fun F io hj => ps_weak (ps_asg (he.run F io) (hg.run F io hj) hs hw h1) fun D σ H h => ?_⟩
  obtain ⟨ts, A, k, p, q⟩ := h
  refine ⟨ts, A, k, p, he.mo _ _ _ _ _ (fun c t h => h.2) (fun c ts1 q v H1 A1 B k1 nb fb g1 w => ?_) q⟩
  exact ⟨ts1, A1, B, c, k1, nb, fb, w, p, hg.mo _ _ _ _ (fun ts2 => contS_tr g1) q⟩
end
end TV
end
set_option Elab.async false
set_option linter.all false
set_option maxRecDepth 100000
set_option maxHeartbeats 2000000
/-! Part 31: try .. except X as e; the except suite. -/
section
namespace TV
open PySem PySem.Spec L2
open PyProof.Rows (envOfC)

/-- what an except suite knows: slot i holds the exception at a, of the class cls, its dict d; it is told as (n, fs) -/
structure ZC where
  T : XTab
  i : Nat
  a : Addr
  n : Str
  fs : List (Str × PyData)
  cls : Value
  d : Option Addr
structure ZC.ok (z : ZC) (K : PySem.W.Frag) (M : Addr → Prop) (σ : St) (H : Hp) : Prop where
  s : σ[z.i]? = some (some (.ref z.a))
  x : XR K z.T H M z.n z.fs z.cls z.d
section
variable {K : PySem.W.Frag} {F : Addr → Prop} {ts : TSt} {σ : St} {H H' : Hp} {A A' : List Addr} {z : ZC}
theorem ZC.ok.tr (h : z.ok K (fun a => F a ∨ a ∈ A) σ H) (k : Core K F ts σ H A) (g : Chg A H A' H') : z.ok K (fun a => F a ∨ a ∈ A') σ H' := ⟨h.1, h.2.stay k.lists (g.stay k.fa)⟩
end
def zdE (z : ZC) (K : PySem.W.Frag) (F : Addr → Prop) (W : WE) : TE := fun σ H Q => ∃ ts A, Core K F ts σ H A ∧ z.ok K (fun a => F a ∨ a ∈ A) σ H ∧ W ts (contE K F σ H A Q)
def zdO (z : ZC) (K : PySem.W.Frag) (F : Addr → Prop) (W : WO) : TE := fun σ H Q => ∃ ts A, Core K F ts σ H A ∧ z.ok K (fun a => F a ∨ a ∈ A) σ H ∧ W ts (contO K F σ H A Q)
def zdT (z : ZC) (K : PySem.W.Frag) (F : Addr → Prop) (W : WT) : TT := fun σ H Q => ∃ ts A, Core K F ts σ H A ∧ z.ok K (fun a => F a ∨ a ∈ A) σ H ∧ W ts (contT K F σ H A Q)
def zdV (z : ZC) (K : PySem.W.Frag) (F : Addr → Prop) (W : WV) : TA := fun σ H Q => ∃ ts A, Core K F ts σ H A ∧ z.ok K (fun a => F a ∨ a ∈ A) σ H ∧ W ts (contV K F σ H A Q)
structure ZE (z : ZC) (X : Cx) (e : Expr) (W : WE) : Prop where
  mo : Mo W
  run : ∀ F, PE X e (zdE z X.K F W)
structure ZO (z : ZC) (X : Cx) (e : Expr) (W : WO) : Prop where
  mo : Mo W
  run : ∀ F, PE X e (zdO z X.K F W)
structure ZT (z : ZC) (X : Cx) (e : Expr) (W : WT) : Prop where
  mo : Mo W
  run : ∀ F, PT X e (zdT z X.K F W)
structure ZW (z : ZC) (X : Cx) (e : Expr) (W : WT) : Prop where
  mo : Mo W
  run : ∀ F, PW X e (zdT z X.K F W)
structure ZV (z : ZC) (X : Cx) (es : List Expr) (W : WV) : Prop where
  mo : Mo W
  run : ∀ F, PA X es (zdV z X.K F W)
section
variable {X : Cx} {z : ZC} {e a b c : Expr} {es rest : List Expr} {pos : Pos} {W Wb We : WE} {tA tB : WT} {wa wb : WO} {Wv : WV}
theorem ze_of (h : SE X e W) : ZE z X e W := ⟨h.mo, fun F => pe_weak (h.run F) fun σ H Q ⟨ts, A, k, _, q⟩ => ⟨ts, A, k, q⟩⟩
theorem zt_of0 (h : ST X e tA) : ZT z X e tA := ⟨h.mo, fun F => pt_weak (h.run F) fun σ H Q ⟨ts, A, k, _, q⟩ => ⟨ts, A, k, q⟩⟩
theorem zo_of (h : SO X e wa) : ZO z X e wa := ⟨h.mo, fun F => pe_weak (h.run F) fun σ H Q ⟨ts, A, k, _, q⟩ => ⟨ts, A, k, q⟩⟩
theorem zo_e (h : ZE z X e W) : ZO z X e (oE W) :=
  ⟨fun ts Q Q' k => h.mo _ _ _ fun _ _ => k _ _, fun F => pe_weak (h.run F) fun σ H Q ⟨ts, A, c, y, q⟩ => ⟨ts, A, c, y, h.mo _ _ _ (fun _ _ => contO_E) q⟩⟩
theorem zt_of (h : ZE z X e W) (he : ∀ whole, isTrue e X.env whole = (do let v ← whole; standAt e.pos; holding [v] (truthy v)) := by intro _; rfl) : ZT z X e (tOf W) :=
  ⟨fun _ _ _ k => h.mo _ _ _ fun _ _ ⟨b, e, q⟩ => ⟨b, e, k _ _ q⟩, fun F => pt_weak (pt_val (h.run F) he) fun σ H Q ⟨ts, A, k, y, q⟩ => ⟨ts, A, k, y, h.mo _ _ _ (fun _ _ => contT_E) q⟩⟩
theorem zd_e2 {K F σ H Q r} {g : F2} (s : Sd2 K g r) (ma : Mo wa) (mb : Mo wb) (h : zdE z K F (e2 g wa wb) σ H Q) : zdO z K F wa σ H fun x H1 => zdO z K F wb σ H1 fun y H2 => r x y H2 Q := by
  obtain ⟨ts, A, k, y, q⟩ := h
  refine ⟨ts, A, k, y, ma _ _ _ (fun c ts1 q v H1 A1 k1 g1 r1 => ?_) q⟩
  refine ⟨ts1, A1, k1, y.tr k g1, mb _ _ _ (fun c2 ts2 q v2 H2 A2 k2 g2 r2 => ?_) q⟩
  obtain ⟨o, h1, q⟩ := cap_res k2 (r1.keep k1 g2) q
  obtain ⟨p, h2, q⟩ := cap_res k2 r2 q
  exact s.run _ _ _ _ _ _ _ k2.lists h1 h2 (s.mo _ _ _ _ (fun c => pure_contE k2 (g1.trans g2)) q)
theorem ze_cmp {op : CmpOp} {r : R2} {g : F2} (ho : OpR X (compareOp op) r) (s : Sd2 X.K g r) (ha : ZO z X a wa) (hb : ZO z X b wb) (hm : behindInMarks op b = false) : ZE z X (.Compare a [op] [b] pos) (e2 g wa wb) :=
  ⟨e2_mo s.mo ha.mo hb.mo, fun F => pe_weak (pe_cmpR ho (ha.run F) (hb.run F) hm) fun _ _ _ => zd_e2 s ha.mo hb.mo⟩
theorem zt_cmp {op : CmpOp} {r : R2} {g : F2} (ho : OpR X (compareOp op) r) (s : Sd2 X.K g r) (ha : ZO z X a wa) (hb : ZO z X b wb) (hm : behindInMarks op b = false) : ZT z X (.Compare a [op] [b] pos) (tOf (e2 g wa wb)) := by
  have h := ze_cmp (pos := pos) ho s ha hb hm
  refine ⟨fun _ _ _ k => h.mo _ _ _ fun _ _ ⟨b, e, q⟩ => ⟨b, e, k _ _ q⟩, fun F => pt_weak (pt_cmpR ho (ha.run F) (hb.run F) hm) fun σ H Q ⟨ts, A, k, y, q⟩ => ?_⟩
  exact zd_e2 s ha.mo hb.mo (Q := fun x H' => ∃ k, x = .bl k ∧ Q k H') ⟨ts, A, k, y, h.mo _ _ _ (fun _ _ => contT_E) q⟩
theorem ze_ix {r : R2} {g : F2} (hr : IxR X r) (s : Sd2 X.K g r) (ha : ZO z X a wa) (hb : ZO z X b wb) (hs : PlainIx b) : ZE z X (.Subscript a b pos) (e2 g wa wb) :=
  ⟨e2_mo s.mo ha.mo hb.mo, fun F => pe_weak (pe_ix hr (ha.run F) (hb.run F) hs) fun _ _ _ => zd_e2 s ha.mo hb.mo⟩
theorem zw_st (h : ZW z X e tA) : ZT z X e tA := ⟨h.mo, fun F => (h.run F).pt⟩
theorem zw_and1 (h : ZT z X a tA) : ZW z X (.BoolOp .And [a] pos) tA := ⟨h.mo, fun F => pw_and1 (h.run F)⟩
theorem zw_or1 (h : ZT z X a tA) : ZW z X (.BoolOp .Or [a] pos) tA := ⟨h.mo, fun F => pw_or1 (h.run F)⟩
theorem zw_and (ha : ZT z X a tA) (hb : ZW z X (.BoolOp .And (b :: rest) pos) tB) : ZW z X (.BoolOp .And (a :: b :: rest) pos) (tAnd tA tB) := by
  refine ⟨fun _ _ _ k => ha.mo _ _ _ fun c _ q => ?_, fun F => pw_weak (pw_and (ha.run F) (hb.run F)) fun σ H Q ⟨ts, A, k, y, q⟩ => ⟨ts, A, k, y, ha.mo _ _ _ (fun c ts1 q H1 A1 k1 g1 => ?_) q⟩⟩
  · cases c with
    | true => exact hb.mo _ _ _ k q
    | false => exact k _ _ q
  · cases c with
    | true => exact ⟨ts1, A1, k1, y.tr k g1, hb.mo _ _ _ (fun _ _ => contT_tr g1) q⟩
    | false => exact q H1 A1 k1 g1
theorem zw_or (ha : ZT z X a tA) (hb : ZW z X (.BoolOp .Or (b :: rest) pos) tB) : ZW z X (.BoolOp .Or (a :: b :: rest) pos) (tOr tA tB) := by
  refine ⟨fun _ _ _ k => ha.mo _ _ _ fun c _ q => ?_, fun F => pw_weak (pw_or (ha.run F) (hb.run F)) fun σ H Q ⟨ts, A, k, y, q⟩ => ⟨ts, A, k, y, ha.mo _ _ _ (fun c ts1 q H1 A1 k1 g1 => ?_) q⟩⟩
  · cases c with
    | true => exact k _ _ q
    | false => exact hb.mo _ _ _ k q
  · cases c with
    | true => exact q H1 A1 k1 g1
    | false => exact ⟨ts1, A1, k1, y.tr k g1, hb.mo _ _ _ (fun _ _ => contT_tr g1) q⟩
theorem zt_not (ha : ZT z X a tA) : ZT z X (.UnaryOp .Not a pos) (tNot tA) :=
  ⟨fun _ _ _ k => ha.mo _ _ _ fun _ _ => k _ _, fun F => pt_weak (pt_not (ha.run F)) fun σ H Q ⟨ts, A, k, y, q⟩ => ⟨ts, A, k, y, ha.mo _ _ _ (fun c ts1 q H1 A1 k1 g1 => q H1 A1 k1 g1) q⟩⟩
theorem ze_one {op} (h : ZE z X a W) : ZE z X (.BoolOp op [a] pos) W := ⟨h.mo, fun F => pe_one (h.run F)⟩
theorem ze_and (ha : ZE z X a W) (hb : ZE z X (.BoolOp .And (b :: rest) pos) Wb) : ZE z X (.BoolOp .And (a :: b :: rest) pos) (eAnd W Wb) := by
  refine ⟨fun _ _ _ k => ha.mo _ _ _ fun c _ ⟨x, e, q⟩ => ⟨x, e, ?_⟩, fun F => pe_weak (pe_and (ha.run F) (hb.run F)) fun σ H Q ⟨ts, A, k, y, q⟩ => ⟨ts, A, k, y, ha.mo _ _ _ (fun c ts1 ⟨x, e, q⟩ v H1 A1 B k1 nb fb g1 w => ⟨x, dp_bl w e, ?_⟩) q⟩⟩
  · cases x with
    | true => exact hb.mo _ _ _ k q
    | false => exact k _ _ q
  · have g2 := g1.less (A'' := A1) fun x hx => List.mem_append_left _ hx
    cases x with
    | true => exact ⟨ts1, A1, k1.unpend, y.tr k g2, hb.mo _ _ _ (fun _ _ => contE_tr g2) q⟩
    | false => exact contE_bl k1.unpend g2 q
theorem ze_or (ha : ZE z X a W) (hb : ZE z X (.BoolOp .Or (b :: rest) pos) Wb) : ZE z X (.BoolOp .Or (a :: b :: rest) pos) (eOr W Wb) := by
  refine ⟨fun _ _ _ k => ha.mo _ _ _ fun c _ ⟨x, e, q⟩ => ⟨x, e, ?_⟩, fun F => pe_weak (pe_or (ha.run F) (hb.run F)) fun σ H Q ⟨ts, A, k, y, q⟩ => ⟨ts, A, k, y, ha.mo _ _ _ (fun c ts1 ⟨x, e, q⟩ v H1 A1 B k1 nb fb g1 w => ⟨x, dp_bl w e, ?_⟩) q⟩⟩
  · cases x with
    | true => exact k _ _ q
    | false => exact hb.mo _ _ _ k q
  · have g2 := g1.less (A'' := A1) fun x hx => List.mem_append_left _ hx
    cases x with
    | true => exact contE_bl k1.unpend g2 q
    | false => exact ⟨ts1, A1, k1.unpend, y.tr k g2, hb.mo _ _ _ (fun _ _ => contE_tr g2) q⟩
theorem ze_not (ha : ZE z X a W) : ZE z X (.UnaryOp .Not a pos) (eNot W) := by
  refine ⟨fun _ _ _ k => ha.mo _ _ _ fun c _ ⟨x, e, q⟩ => ⟨x, e, k _ _ q⟩, fun F => pe_weak (pe_not (ha.run F)) fun σ H Q ⟨ts, A, k, y, q⟩ => ⟨ts, A, k, y, ha.mo _ _ _ (fun c ts1 ⟨x, e, q⟩ v H1 A1 B k1 nb fb g1 w => ⟨x, dp_bl w e, ?_⟩) q⟩⟩
  exact contE_bl k1.unpend (g1.less (A'' := A1) fun x hx => List.mem_append_left _ hx) q
/-! a tuple: what is made of scalars and fields -/
theorem zv_of (h : SV X es Wv) : ZV z X es Wv := ⟨h.mo, fun F => pa_weak (h.run F) fun σ H Q ⟨ts, A, k, _, q⟩ => ⟨ts, A, k, q⟩⟩
theorem zv_cons (h1 : ZE z X e We) (h2 : ZV z X es Wv) (hs : starEach (e :: es) X.env = (false, eval e X.env) :: starEach es X.env := by rfl) : ZV z X (e :: es) (vCons We Wv) := by
  refine ⟨fun _ _ _ k => h1.mo _ _ _ fun _ _ => h2.mo _ _ _ fun _ _ => k _ _, fun F => ⟨fun pos pins s σ H Q I q => ?_⟩⟩
  obtain ⟨ts, A, k, y, q⟩ := q
  have P : PA X (e :: es) (fun σ H Q => zdE z X.K F We σ H fun x H1 => ∃ F', zdV z X.K F' Wv σ H1 fun xs H2 => Q (x :: xs) H2) := by
    refine pa_weak (pa_cons (h1.run F) (t := fun σ H Q => ∃ F', zdV z X.K F' Wv σ H Q) ⟨fun pos pins s σ H Q I ⟨F', z⟩ => (h2.run F').run pos pins s σ H Q I z⟩ hs) fun σ H Q z => z
  refine P.run pos pins s σ H Q I ⟨ts, A, k, y, h1.mo _ _ _ (fun c ts1 q v H1 A1 B1 k1 nb1 fb1 g1 w1 => ?_) q⟩
  have y1 : z.ok X.K (fun a => (F a ∨ a ∈ B1) ∨ a ∈ A1) σ H1 := by
    have y2 := y.tr k g1
    refine ⟨y2.1, y2.2.stay (fun b h => ?_) (stay_less fun b h => ?_)⟩
    · rcases h with h | h
      · exact k1.fa b (.inl h)
      · rcases List.mem_append.mp h with h | h
        · exact k1.there b h
        · exact k1.fa b (.inr h)
    · rcases h with (h | h) | h
      · exact .inl h
      · exact .inr (List.mem_append_right _ h)
      · exact .inr (List.mem_append_left _ h)
  refine ⟨fun a => F a ∨ a ∈ B1, ts1, A1, k1, y1, h2.mo _ _ _ (fun cs ts2 q vs H2 A2 B2 k2 nb2 fb2 g2 w2 => ?_) q⟩
  have g2' := g2.less (A'' := A2) fun x hx => List.mem_append_left _ hx
  have w1' := Chg.ow k1 (A' := A2 ++ B2) g2 w1
  have e1 : (fun a => ((F a ∨ a ∈ B1) ∨ a ∈ B2) ∨ a ∈ A2) = fun a => (F a ∨ a ∈ B1 ++ B2) ∨ a ∈ A2 := by
    funext a
    rw [List.mem_append, or_assoc (a := F a)]
  have e2 : (fun a => (F a ∨ a ∈ B1) ∨ a ∈ A2 ++ B2) = fun a => (F a ∨ a ∈ B1 ++ B2) ∨ a ∈ A2 := by
    funext a
    simp only [List.mem_append, or_assoc]
    refine propext ⟨fun h => h.imp id (Or.imp id Or.symm), fun h => h.imp id (Or.imp id Or.symm)⟩
  rw [e2] at w1'
  rw [e1] at w2
  refine q (v :: vs) H2 A2 (B1 ++ B2) (core_or k2) (List.nodup_append.mpr ⟨nb1, nb2, fun a ha b hb e => fb2 b hb (.inr (e ▸ ha))⟩) (fun a ha => (List.mem_append.mp ha).elim (fb1 a) fun y f => fb2 a y (.inl f)) ?_ (.cons w1' w2)
  refine ⟨fun b o e n => ?_, fun x hx => ?_⟩
  · refine g2.ext b o (g1.ext b o e n) fun h => ?_
    rcases g1.sub b (List.mem_append_left _ h) with h | h
    · exact n h
    · rw [h] at e; cases e
  · have step : x ∈ A1 ++ B1 ∨ H1 x = none := by
      simp only [List.mem_append] at hx ⊢
      rcases hx with hx | hx | hx
      · exact (g2.sub x (List.mem_append_left _ hx)).imp .inl id
      · exact .inl (.inr hx)
      · exact (g2.sub x (List.mem_append_right _ hx)).imp .inl id
    rcases step with h | h
    · exact g1.sub x h
    · by_cases hn : x ∈ A
      · exact .inl hn
      · refine .inr ?_
        cases e : H x with
        | none => rfl
        | some o => rw [g1.ext x o e hn] at h; cases h
theorem ze_tup {x1} (h : ZV z X es Wv) : ZE z X (.Tuple es x1 pos) (eTup Wv) := by
  refine ⟨fun _ _ _ k => h.mo _ _ _ fun cs t ⟨l, q⟩ => ⟨l, k _ _ q⟩, fun F => pe_weak (pe_tup (h.run F)) ?_⟩
  rintro σ H Q ⟨ts, A, k, y, q⟩
  refine ⟨ts, A, k, y, h.mo _ _ _ (fun cs ts1 ⟨l, q⟩ vs H1 A1 B k1 nb fb g1 w => ⟨by rw [w.len]; exact l, fun p hp => ?_⟩) q⟩
  obtain ⟨k2, g2, s, np⟩ := laid_core (o := .tup vs) k1 g1 hp
  by_cases hc : cleans cs = true
  · rw [if_pos hc] at q
    obtain ⟨B', r, rfl⟩ := w.fulls hc
    refine q (.ref p) _ A1 B' k2 nb fb g2 (.fullT (.inl ⟨.inl upd_same, np⟩) (OwAll.stay s _ _ _ r fun a ha => ?_))
    obtain ⟨xs, e⟩ := r.there _ _ _ a ha
    rw [e, upd_keep hp _ _ e]
  · rw [if_neg hc] at q
    have r := w.give (M' := fun a => F a ∨ a ∈ A1) (fun a x => x.elim (fun f => .inl (.inl f)) .inr) fun a ha x => x.elim (fb a ha) fun y => k1.dj a y (.inr ha)
    have k3 := k2.unpend
    have g3 := g2.less (A'' := A1) fun x hx => List.mem_append_left _ hx
    have np' : ¬ (F p ∨ p ∈ A1) := fun h => np (h.elim (fun f => .inl (.inl f)) .inr)
    have r' : RpAll X.K (upd H1 p (.tup vs)) (fun a => F a ∨ a ∈ A1) vs (cs.map (·.1)) := RpAll.stay (fun b o e n => ⟨upd_keep hp b o e, n⟩) _ _ r
    exact pure_contE k3 g3 q (.ref p) _ [] (.of_rp (.tup (.inl ⟨.inl upd_same, np'⟩) r'))
/-! isinstance(e, D), e.f -/
theorem look1 {α : Type} (f g : Str) (y : α) : List.lookup g [(f, y)] = if g = f then some y else none := by
  by_cases h : g = f
  · subst h; simp [List.lookup]
  · have e : (g == f) = false := by simpa using h
    rw [if_neg h]; simp [List.lookup, e]
def subX (n D : Str) : Bool := n == D || D == "FriezeError" || D == "ValueError"
def eXIs (n D : Str) : WE := fun ts Q => Q (.bool (subX n D), .full) ts
def eXf (fs : List (Str × PyData)) (f : Str) : WE := fun ts Q => ∃ v, fs.lookup f = some v ∧ Q (v, .fz) ts
theorem ze_fld {f : Str} {oe : Obj} {pn : List (Addr × Obj)} (hz : Zc z.cls z.d oe) (hf : ∃ vs, oe.data = .fields vs) (hT : ∀ p ∈ z.T, XfC X.K p.2 ∧ PySem.W.findIn X.K (.ref p.2) f = some none) (he : PE (X.suite z.a ((z.a, oe) :: pn)) e (tVar z.i))
    (hb : attributeBase e f X.env (eval e X.env) = eval e X.env := by rfl) : ZE z (X.suite z.a ((z.a, oe) :: pn)) (.Attribute e f pos) (eXf z.fs f) := by
  refine ⟨fun ts Q Q' k ⟨v, e, q⟩ => ⟨v, e, k _ _ q⟩, fun F => ⟨fun pins s σ H Q I h => ?_⟩⟩
  obtain ⟨ts, A, k, ⟨y1, C, hm, hc, f', v, dd, u, e1, e2, e3, r⟩, v', hl, q⟩ := h
  obtain ⟨T, hno⟩ := hT _ hm
  refine (pe_xf (d := z.d) (cls := z.cls) T hno hz hf he hb).run pins s σ H Q I ⟨.ref z.a, y1, rfl, hc, dd, [(f', u)], u, e2, e3, ?_, ?_⟩
  · rw [e1] at hl
    rw [look1] at hl ⊢
    split at hl
    · rename_i hf; rw [if_pos hf]
    · cases hl
  · rw [e1, look1] at hl
    split at hl
    · cases hl
      exact pure_contE k Chg.refl q u H [] (.of_rp r)
    · cases hl
/-- isinstance(e, D), e the exception that the suite holds -/
def rIsX (K : PySem.W.Frag) (C a : Addr) (d : Option Addr) : List V → Hp → VK → Prop := fun xs H Q => ∃ (c : V) (cv : Value) (b : Bool), xs = [.ref a, c] ∧ (∀ u, RelV c u → u = cv) ∧ PySem.W.kitOne K (.ref C) cv = some b ∧ (∃ dd fs, d = some dd ∧ H dd = some (.xd fs)) ∧ Q (.bl b) H
theorem call_isX {a C : Addr} {cls : Value} {d : Option Addr} {oe : Obj} {pn : List (Addr × Obj)} (E : ExcC X.K C) (hz : Zc cls d oe) (hc : cls = .ref C) (hf : ∃ vs, oe.data = .fields vs) : CallR (X.suite a ((a, oe) :: pn)) (.builtin "isinstance") (rIsX X.K C a d) := by
  intro pins s σ H xs us Q I r h
  obtain ⟨c, cv, b, rfl, hcv, e, ⟨dd, fs, ed, ea⟩, q⟩ := h
  subst hc
  subst ed
  cases r with
  | cons rx rr =>
    cases rr with
    | cons rt rr =>
      cases rr
      cases rx
      have ec := hcv _ rt
      subst ec
      obtain ⟨hget, _⟩ := I.pin (a, oe) (List.mem_append.mpr (.inl List.mem_cons_self))
      obtain ⟨vs, hv⟩ := hf
      have hx : ObjOk X.prog X.w H s.heap dd (.xd fs) := I.hok dd _ ea
      obtain ⟨mA, hns, hr⟩ := hx
      obtain ⟨od, ho, hl⟩ := lookIn_ns hns
      have J : PySem.W.InstAt s.heap a oe C (some od) := ⟨hget, hz.1, by unfold PySem.W.notCls; rw [hv] <;> rfl, by rw [hz.2]; exact ho⟩
      have hcl : (PySem.W.clsIn X.K C).isSome = true := by
        obtain ⟨cd, hc, _⟩ := PySem.W.any_some E.hd
        rw [hc]; rfl
      exact PySem.W.kia_one (PySem.W.kitx_exc hcl E.hg E.hk E.hs E.ha E.hn E.ht E.hm) I.kIn J e (fun z => nomatch z) fun tk => ⟨.bl b, H, I.kept (t' := tk) fun _ _ z => z, rfl, q⟩
theorem ze_isX {x D : Str} {v : V} {cv : Value} {p p2 : Pos} {oe : Obj} {pn : List (Addr × Obj)} (hz : Zc z.cls z.d oe) (hf : ∃ vs, oe.data = .fields vs) (hm : X.mg "isinstance" = none) (hE : ∀ p ∈ z.T, ExcC X.K p.2) (hT : ∀ p ∈ z.T, PySem.W.kitOne X.K (.ref p.2) cv = some (subX p.1 D))
    (hg : Gl X "isinstance") (he : PE (X.suite z.a ((z.a, oe) :: pn)) e (tVar z.i)) (hD : PE (X.suite z.a ((z.a, oe) :: pn)) (.Name x p2) (tC v)) (hv : ∀ u, RelV v u → u = cv)
    (hs : starEach [e, .Name x p2] X.env = (false, eval e X.env) :: starEach [.Name x p2] X.env := by rfl) (hs2 : starEach [.Name x p2] X.env = (false, eval (.Name x p2) X.env) :: starEach [] X.env := by rfl) (hpl : (backTo pos (starEach [.Name x p2] X.env)).any (·.1) = false := by rfl) :
    ZE z (X.suite z.a ((z.a, oe) :: pn)) (.Call (.Name "isinstance" p) [e, .Name x p2] [] pos) (eXIs z.n D) := by
  refine ⟨fun ts Q Q' k q => k _ _ q, fun F => ⟨fun pins s σ H Q I h => ?_⟩⟩
  obtain ⟨ts, A, k, ⟨y1, C, hm', hc, f', u', dd, u, e1, e2, e3, r⟩, q⟩ := h
  have P := pe_callB (X := X.suite z.a ((z.a, oe) :: pn)) (p := p) (pos := pos) (call_isX (d := z.d) (cls := z.cls) (hE _ hm') hz hc hf) hg hm (by decide +kernel) (pa_cons he (pa_cons hD pa_nil hs2) hs) (by decide) (by decide) hs hpl
  refine P.run pins s σ H Q I ⟨.ref z.a, y1, ?_⟩
  exact ⟨v, cv, _, rfl, hv, hT _ hm', ⟨dd, _, e2, e3⟩, pure_contE k Chg.refl q _ H [] (.of_sc rfl (.bl _))⟩
end
theorem eXf_self {f : Str} {v : PyData} {ts : TSt} {Q : TVal → TSt → Prop} : eXf [(f, v)] f ts Q = Q (v, .fz) ts := by
  unfold eXf
  rw [look1, if_pos rfl]
  exact propext ⟨fun ⟨w, e, q⟩ => by cases e; exact q, fun q => ⟨v, rfl, q⟩⟩
theorem isX_none : isX .none = false := rfl
theorem isX_bool {b} : isX (.bool b) = false := rfl
theorem isX_int {i} : isX (.int i) = false := rfl
theorem isX_str {i} : isX (.str i) = false := rfl
theorem isX_list {i} : isX (.list i) = false := rfl
theorem isX_tuple {i} : isX (.tuple i) = false := rfl
theorem xCase_none {k1 k2} : xCase .none k1 k2 = k1 := rfl
theorem xCase_bool {b k1 k2} : xCase (.bool b) k1 k2 = k1 := rfl
theorem xCase_int {i k1 k2} : xCase (.int i) k1 k2 = k1 := rfl
theorem xCase_str {i k1 k2} : xCase (.str i) k1 k2 = k1 := rfl
theorem xCase_list {i k1 k2} : xCase (.list i) k1 k2 = k1 := rfl
theorem xCase_tuple {i k1 k2} : xCase (.tuple i) k1 k2 = k1 := rfl
theorem subX_self (n : Str) : subX n n = true := by unfold subX; simp
theorem subX_fe (n : Str) : subX n "FriezeError" = true := by unfold subX; simp
theorem subX_ve (n : Str) : subX n "ValueError" = true := by unfold subX; simp
/-! ### statements of a suite -/
structure ZS (z : ZC) (X : Cx) (J : List Nat) (s : Stmt) (W : WS) : Prop where
  mo : MoS W
  run : ∀ F io, io.map (·.1) = J → (z.i, some (.ref z.a)) ∈ io → PS X s (fun D σ H => ∃ ts A, Core X.K F ts σ H A ∧ Pin io σ ∧ XR X.K z.T H (fun b => F b ∨ b ∈ A) z.n z.fs z.cls z.d ∧ W (endsR X.K Y0 F io H A D) ts)
structure ZSs (z : ZC) (X : Cx) (J : List Nat) (s : List Stmt) (W : WS) : Prop where
  mo : MoS W
  run : ∀ F io, io.map (·.1) = J → (z.i, some (.ref z.a)) ∈ io → PSs X s (fun D σ H => ∃ ts A, Core X.K F ts σ H A ∧ Pin io σ ∧ XR X.K z.T H (fun b => F b ∨ b ∈ A) z.n z.fs z.cls z.d ∧ W (endsR X.K Y0 F io H A D) ts)
section
variable {X : Cx} {z : ZC} {J : List Nat} {st : Stmt} {sts rest : List Stmt} {e c : Expr} {pos : Pos} {W W' W1 W2 : WS} {We : WE} {Wt : WT}
theorem zs_of (h : SS X J st W) : ZS z X J st W := ⟨h.mo, fun F io hj _ => ps_weak (h.run F io hj) fun D σ H ⟨ts, A, k, p, _, q⟩ => ⟨ts, A, k, p, q⟩⟩
theorem zss_of (h : SSs X J sts W) : ZSs z X J sts W := ⟨h.mo, fun F io hj _ => pss_weak (h.run F io hj) fun D σ H ⟨ts, A, k, p, _, q⟩ => ⟨ts, A, k, p, q⟩⟩
theorem zss_nil : ZSs z X J [] wNext := zss_of sss_nil
theorem zss_one (h1 : ZS z X J st W) : ZSs z X J [st] W := ⟨h1.mo, fun F io hj hi => pss_one (h1.run F io hj hi)⟩
theorem zss_cons (h1 : ZS z X J st W) (h2 : ZSs z X J rest W') : ZSs z X J (st :: rest) (wSeq W W') := by
  refine ⟨seq_mo h1.mo h2.mo, fun F io hj hi => pss_weak (pss_cons (h1.run F io hj hi) (h2.run F io hj hi)) ?_⟩
  rintro D σ H ⟨ts, A, k, p, x, q⟩
  refine ⟨ts, A, k, p, x, h1.mo { endsR X.K Y0 F io H A D with nx := fun ts' => W' (endsR X.K Y0 F io H A D) ts' } _ _ ⟨?_, fun _ _ => id, fun _ => id, fun _ => id⟩ q⟩
  exact fun ts1 q1 σ' H' A' k' g' p' => ⟨ts1, A', k', p', x.stay k.lists (g'.stay k.fa), h2.mo _ _ _ (ends_tr g') q1⟩
theorem zs_ret (h : ZE z X e We) : ZS z X J (.Return (some e) pos) (wRet We) := by
  refine ⟨fun _ _ _ l => h.mo _ _ _ fun _ _ => l.rt _ _, fun F io hj hi => ps_weak (ps_ret (h.run F)) ?_⟩
  rintro D σ H ⟨ts, A, k, p, x, q⟩
  exact ⟨ts, A, k, ⟨p _ hi, x⟩, h.mo _ _ _ (fun c ts1 q v H1 A1 B k1 nb fb g1 w => q.1 v σ H1 A1 B k1 nb fb g1 p w) q⟩
theorem zs_if {a b : List Stmt} (hc : ZT z X c Wt) (ha : ZSs z X J a W1) (hb : ZSs z X J b W2) : ZS z X J (.If c a b pos) (wIf Wt W1 W2) := by
  refine ⟨fun _ _ _ l => hc.mo _ _ _ fun b _ q => ?_, fun F io hj hi => ps_weak (ps_if (hc.run F) (ha.run F io hj hi) (hb.run F io hj hi)) ?_⟩
  · cases b with
    | true => exact ha.mo _ _ _ l q
    | false => exact hb.mo _ _ _ l q
  · rintro D σ H ⟨ts, A, k, p, x, q⟩
    refine ⟨ts, A, k, ⟨p _ hi, x⟩, hc.mo _ _ _ (fun b ts1 q H1 A1 k1 g1 => ?_) q⟩
    have x1 := x.stay k.lists (g1.stay k.fa)
    cases b with
    | true => exact ⟨ts1, A1, k1, p, x1, ha.mo _ _ _ (ends_tr g1) q⟩
    | false => exact ⟨ts1, A1, k1, p, x1, hb.mo _ _ _ (ends_tr g1) q⟩
end
/-! ### try: body, except C as n: suite -/
def sufE (i : Nat) (D : TEnds) : TEnds := { D with nx := fun t => i < t.length ∧ D.nx (t.set i none), bk := fun t => i < t.length ∧ D.bk (t.set i none), ct := fun t => i < t.length ∧ D.ct (t.set i none) }
def tryR (i : Nat) (Wh : Str → List (Str × PyData) → WS) (D : TEnds) (c : TVal) (ts' : TSt) : Prop := xCase c.1 (D.rt c ts') fun n fs => i < ts'.length ∧ Wh n fs (sufE i D) (ts'.set i none)
def wTry (i : Nat) (Wb : WS) (Wh : Str → List (Str × PyData) → WS) : WS := fun D ts => Wb { D with rt := tryR i Wh D } ts
section
variable {X : Cx} {J : List Nat} {Y : WY} {T : XTab} {x n : Str} {c : Value} {i : Nat} {body suite : List Stmt} {b₀ : Stmt} {np pos pos' : Pos} {Wb : WS} {Wh : Str → List (Str × PyData) → WS} {Wout : WX}
theorem takes0N {X : Cx} : L2N.Takes X (fun _ _ _ _ => False) := fun _ _ x => by
  obtain ⟨_, _, _, _, _, _, _, _, _, _, _, _, _, _, _, _, z⟩ := x
  exact z.elim
theorem contS_drop {K F io H A H' A'} {R : St → Hp → Prop} {i : Nat} {t : TSt} (hn : ∀ p ∈ io, p.1 ≠ i) {io' : List (Nat × Option V)} (hsub : ∀ p ∈ io, p ∈ io') (g : Chg A H A' H') (h : i < t.length ∧ contS K F io H A R (t.set i none)) : contS K F io' H' A' (fun σ H => R (σ.set i none) H) t := by
  intro σ2 H2 A2 k2 g2 p2
  obtain ⟨A3, k3, s3⟩ := k2.bind (w := none) h.1
  refine h.2 _ _ A3 k3 ((g.trans g2).less s3) fun p hp => ?_
  rw [List.getElem?_set_ne (fun e => hn p hp e.symm)]
  exact p2 p (hsub p hp)
theorem ss_try (hs : X.stack = X.env :: X.outer) (hf : X.env.frame = some X.env.locals) (hN : X.N.Nodup) (hi : X.N[i]? = some n) (hln : X.env.kindOf n = some .local) (hc : Names X x c) (tk : L2N.Takes X Wout) (hx : ∀ p ∈ T, PySem.W.exmOne X.K (.ref p.2) c = some true) (hij : i ∉ J)
    (hb : ∀ (W : WX) (pn : List (Addr × Obj)) (xe : Value → Shared → Prop), YT (X.tr pn xe) (YOf X.K T W) T → PassesOwn (model X.prog X.w) X.A X.env xe → SSsY (YOf X.K T W) (X.tr pn xe) J body Wb)
    (hsu : ∀ (a : Addr) (oe : Obj) (cls : Value) (d : Option Addr) (pn : List (Addr × Obj)) (nm : Str) (fs : List (Str × PyData)), L2N.Zn cls d oe → (∃ vs, oe.data = .fields vs) → ZSs ⟨T, i, a, nm, fs, cls, d⟩ (X.suite a ((a, oe) :: pn)) (i :: J) (b₀ :: suite) (Wh nm fs)) :
    SSY Y X J (.Try body [.ExceptHandler (some (.Name x np)) (some n) (b₀ :: suite) pos'] [] [] pos) (wTry i Wb Wh) := by
  have hm : ∀ n fs, MoS (Wh n fs) := fun nm fs => (hsu 0 { cls := .none, dict := none, data := .fields #[.none, .none, .none] } .none none [] nm fs ⟨rfl, rfl, fun vs e => by cases e; rfl⟩ ⟨_, rfl⟩).mo
  have mb : MoS Wb := (hb (fun _ _ _ _ => False) [] (fun _ _ => False) ⟨_, takes0N, rfl⟩ PassesOwn.never).mo
  refine ⟨fun D D' ts l => mb _ _ _ ⟨l.nx, fun c t h => ?_, l.bk, l.ct⟩, fun F io hj => ?_⟩
  · have h : tryR i Wh D c t := h
    show tryR i Wh D' c t
    unfold tryR at h ⊢
    refine xCase_mo (l.rt _ _) (fun n fs h => ⟨h.1, ?_⟩) h
    exact hm n fs (sufE i D) (sufE i D') _ ⟨fun t h => ⟨h.1, l.nx _ h.2⟩, l.rt, fun t h => ⟨h.1, l.bk _ h.2⟩, fun t h => ⟨h.1, l.ct _ h.2⟩⟩ h.2
  refine ps_weak (L2N.ps_try_as (i := i) (n := n) (tb := fun W => rdS X.K (YOf X.K T W) F io Wb) (ts := fun a cls d => fun D σ H => ∃ nm fs, ∃ ts A, Core X.K F ts σ H A ∧ Pin ((i, some (.ref a)) :: io) σ ∧ XR X.K T H (fun b => F b ∨ b ∈ A) nm fs cls d ∧ Wh nm fs (endsR X.K Y0 F ((i, some (.ref a)) :: io) H A D) ts) (Wout := Wout)
    hs hf hN hi hln hc tk (fun W pn xe t po => (hb W pn xe ⟨W, t, rfl⟩ po).run F io hj) fun a oe cls d pn hz hfd => ⟨fun pins s σ H D I q => ?_⟩) ?_
  · obtain ⟨nm, fs, ts, A, k, p, xr, q⟩ := q
    exact ((hsu a oe cls d pn nm fs hz hfd).run F ((i, some (.ref a)) :: io) (by rw [List.map_cons, hj]) List.mem_cons_self).run pins s σ H D I ⟨ts, A, k, p, xr, q⟩
  · rintro D σ H ⟨ts, A, k, p, q⟩
    refine ⟨ts, A, k, p, mb { endsR X.K Y F io H A D with rt := tryR i Wh (endsR X.K Y F io H A D) } _ _ ⟨fun _ => id, fun cc t h => ?_, fun _ => id, fun _ => id⟩ q⟩
    have h : tryR i Wh (endsR X.K Y F io H A D) cc t := h
    unfold tryR at h
    have hne : ∀ p ∈ io, p.1 ≠ i := fun p hp e => hij (by rw [← hj, ← e]; exact List.mem_map_of_mem hp)
    refine ⟨fun v σ' H' A' B k1 nb fb g1 p1 w => ?_, fun σ' H' A' k1 g1 p1 nm fs cls d ec hl xr => ?_⟩
    · obtain ⟨dd, mm⟩ := cc
      cases dd with
      | dict kvs => cases w with
        | fz h => cases h
        | sc e _ => simp [scalar] at e
      | _ => exact h.1 v σ' H' A' B k1 nb fb g1 p1 w
    · rw [ec, xCase_exn] at h
      obtain ⟨hlt, h⟩ := h
      obtain ⟨C, hm1, hcls, _⟩ := id xr
      refine ⟨true, by rw [hcls]; exact hx _ hm1, fun _ a na => ?_, fun z => Bool.noConfusion z⟩
      obtain ⟨A3, k3, s3⟩ := k1.bind (i := i) (w := some (.ref a)) hlt
      have hσ : i < σ'.length := by rw [k1.len]; exact hlt
      refine ⟨nm, fs, t.set i none, A3, k3, fun q hq => ?_, xr.stay hl (stay_less fun b h => h.imp id (s3 b)), hm nm fs (sufE i (endsR X.K Y F io H A D)) _ _ ⟨fun t' h => contS_drop hne (fun p hp => List.mem_cons_of_mem _ hp) (g1.less s3) h, fun c t' h => ⟨fun v σ2 H2 A2 B2 k2 nb2 fb2 g2 p2 w2 => h.1 v σ2 H2 A2 B2 k2 nb2 fb2 ((g1.less s3).trans g2) (fun p hp => p2 p (List.mem_cons_of_mem _ hp)) w2, fun _ _ _ _ _ _ => trivial⟩,
        fun t' h => contS_drop hne (fun p hp => List.mem_cons_of_mem _ hp) (g1.less s3) h, fun t' h => contS_drop hne (fun p hp => List.mem_cons_of_mem _ hp) (g1.less s3) h⟩ h⟩
      rcases List.mem_cons.mp hq with rfl | hq
      · exact List.getElem?_set_self hσ
      · rw [List.getElem?_set_ne (fun e => hne q hq e.symm)]
        exact p1 q hq
end
/-! ### defs called within a suite -/
section
variable {P : Program} {w : World} {K : PySem.W.Frag} {mg : Str → Option Value} {base : Heap}
abbrev cxH0 (P : Program) (w : World) (K : PySem.W.Frag) (mg : Str → Option Value) (base : Heap) (N : List Str) (qual : Str) (scope : Scope) (f : Addr) (cd : Value) (A : Around) (outer : List Env) (s : Shared) (H : Hp) (E : XK) (p : Addr × Obj) : Cx := (L2H.cxH CX0 P w K mg base N qual scope f cd A outer s H E p).nox
theorem hu65H {k : Nat} {A : Around} (h : L2H.RoomH k A) : A.units + 65 < cLine := by have := h.un; omega
theorem roomH_mark {k : Nat} {A : Around} (r : Room k A) (h : Option Value) : L2H.RoomH k (A.mark h) := ⟨r.dp, r.un⟩
theorem hot_suite {X : Cx} {a : Addr} {oe : Obj} {cls : Value} {d : Option Addr} {pn : List (Addr × Obj)} (hz : L2N.Zn cls d oe) (hf : ∃ vs, oe.data = .fields vs) : L2H.HotC (X.suite a ((a, oe) :: pn)) := by
  obtain ⟨vs, hv⟩ := hf
  exact ⟨(a, oe), ⟨rfl, vs, hv, hz.2.2 vs hv⟩, List.mem_cons_self⟩
theorem fn_okH {x qual : Str} {st : Stmt} {f : Addr} {fd : FuncData} {N ps : List Str} {k : Nat} {S : FSpec} {W : WS} (F : Fun K x qual st f fd) (Sc : FnScope N ps (defScope st))
    (hb : ∀ (cdv : Value) (A : Around) (outer : List Env) (s : Shared) (H : Hp) (E : XK) (p : Addr × Obj), L2H.HotC (cxH0 P w K mg base N qual (defScope st) f cdv A outer s H E p) → L2H.RoomH k (A.deeper (envOfC qual (defScope st) s.heap.objs.size f cdv)) → SSs (cxH0 P w K mg base N qual (defScope st) f cdv A outer s H E p) [] (defBody st) W)
    (h : ∀ cs Q, cs.length = ps.length → S cs Q → W (fnE [] Q) (cs.map some ++ List.replicate (N.length - ps.length) none)) : L2H.FnH P w K mg base CX0 (k + 1) f fd ps (spT K ps.length [] S) := by
  obtain ⟨oc, od, kV, doc, pm, an, cdv, ct, osl, rfl, lk, hcd⟩ := F.ex
  refine L2H.fn_ofH lk hcd Sc (fun vs H Q E h => h.1) (fun A outer s H vs Q E p hot hr hs => ?_)
  obtain ⟨hl, Fo, A0, cs, c0, hS⟩ := hs
  have hc : cs.length = ps.length := by
    have := c0.len
    rw [List.length_map, List.length_map] at this
    omega
  have B := hb cdv A outer s H E p ⟨p, ⟨hot.1, hot.2⟩, List.mem_singleton.mpr rfl⟩ hr
  have c1 : Core K Fo (cs.map some ++ List.replicate (N.length - ps.length) none) (L2.start N vs) H A0 := by
    obtain ⟨A₀, p, w⟩ := c0.rp
    refine ⟨c0.nd, c0.dj, c0.fa, A₀, p, ?_⟩
    unfold L2.start
    rw [hl]
    exact w.pad _
  refine ⟨_, (B.run Fo [] rfl).nox, _, A0, c1, fun p hp => absurd hp List.not_mem_nil, B.mo _ _ _ ⟨?_, ?_, fun _ (h : False) => h.elim, fun _ (h : False) => h.elim⟩ (h cs _ hc hS)⟩
  · intro ts' q σ' H' A' k' g' p'
    obtain ⟨fins, A2, q, w, nd, sub⟩ := fin_core (vs := []) k' q rfl (by simp)
    refine q .non H' A2 [] ⟨by rw [List.append_nil]; exact nd, fun a ha => k'.dj a (sub a (by simpa using ha)), .sc rfl .non, ?_, g'.less fun x hx => sub x (by simpa using hx)⟩
    rw [List.append_nil]
    exact w
  · intro r ts' q
    refine ⟨fun v σ' H' A' B' k' nb fb g' p' wr => ?_, fun _ _ _ _ _ _ => trivial⟩
    obtain ⟨fins, A2, q, w, nd, sub⟩ := fin_core (vs := []) k' q rfl (by simp)
    refine q v H' A2 B' ⟨List.nodup_append.mpr ⟨nd, nb, fun a ha b hb e => k'.dj a (sub a ha) (.inr (e ▸ hb))⟩, fun a ha => ?_, Ow.stay (stay_less fun a x => ?_) _ _ _ _ wr fun _ _ => rfl, w.stay (stay_less fun a x => ?_) fun _ _ => rfl, g'.less fun x hx => ?_⟩
    · exact (List.mem_append.mp ha).elim (fun y f => k'.dj a (sub a y) (.inl f)) (fb a)
    · rcases x with x | x
      · exact .inl (.inl x)
      · exact (List.mem_append.mp x).elim (fun y => .inr (sub a y)) fun y => .inl (.inr y)
    · rcases x with x | x
      · exact .inl (.inl x)
      · exact (List.mem_append.mp x).elim .inr fun y => .inl (.inr y)
    · exact (List.mem_append.mp hx).elim (fun y => List.mem_append_left _ (sub x y)) fun y => List.mem_append_right _ y
def CalH (P : Program) (w : World) (K : PySem.W.Frag) (mg : Str → Option Value) (base : Heap) (k : Nat) (x : Str) (ps : List Str) (S : FSpec) : Prop :=
  ∃ f fd, L2H.FnH P w K mg base CX0 k f fd ps (spT K ps.length [] S) ∧ CalM K mg x ps S f fd
theorem calH_mk {k : Nat} {x : Str} {ps : List Str} {S : FSpec} {f : Addr} {fd : FuncData} (G : L2H.FnH P w K mg base CX0 k f fd ps (spT K ps.length [] S)) (ok : FSok ps.length S) (m : mg x = some (.ref f)) (kp : PySem.W.keepIn K (.ref f) = true) (b : Binds K fd ps []) : CalH P w K mg base k x ps S := ⟨f, fd, G, ok, m, kp, b⟩
end
def zdA (z : ZC) (K : PySem.W.Frag) (F : Addr → Prop) (W : WA) : TA := fun σ H Q => ∃ ts A, Core K F ts σ H A ∧ z.ok K (fun a => F a ∨ a ∈ A) σ H ∧ W ts (contA K F σ H A Q)
structure ZA (z : ZC) (X : Cx) (es : List Expr) (W : WA) : Prop where
  mo : Mo W
  run : ∀ F, PA X es (zdA z X.K F W)
section
variable {X : Cx} {z : ZC} {k : Nat} {f : Addr} {fd : FuncData} {ps : List Str} {S : FSpec} {x : Str} {p pos : Pos} {e : Expr} {es : List Expr} {Wa : WA} {wa : WO}
theorem za_of (h : SA X es Wa) : ZA z X es Wa := ⟨h.mo, fun F => pa_weak (h.run F) fun σ H Q ⟨ts, A, k, _, q⟩ => ⟨ts, A, k, q⟩⟩
theorem za_cons (ha : ZO z X e wa) (hb : ZA z X es Wa) (hs : starEach (e :: es) X.env = (false, eval e X.env) :: starEach es X.env := by rfl) : ZA z X (e :: es) (aCons wa Wa) := by
  refine ⟨fun _ _ _ k => ha.mo _ _ _ fun _ _ => hb.mo _ _ _ fun _ _ => k _ _, fun F => pa_weak (pa_cons (ha.run F) (hb.run F) hs) ?_⟩
  rintro σ H Q ⟨ts, A, k, y, q⟩
  refine ⟨ts, A, k, y, ha.mo _ _ _ (fun c ts1 q v H1 A1 k1 g1 r1 => ?_) q⟩
  refine ⟨ts1, A1, k1, y.tr k g1, hb.mo _ _ _ (fun c2 ts2 q v2 H2 A2 k2 g2 r2 => ?_) q⟩
  exact q _ H2 A2 k2 (g1.trans g2) ⟨r1.keep k1 g2, r2⟩
theorem pass0At {X : Cx} {σ : St} : PassesAt CX0 X σ E0 := fun _ _ _ _ _ _ h => h.elim
/-- f(e, ..) within a suite -/
theorem se_callH (mS : FSok ps.length S) (Fk : L2H.FnH X.prog X.w X.K X.mg X.base CX0 k f fd ps (spT X.K ps.length [] S)) (hot : L2H.HotC X) (hr : L2H.RoomH k X.A) (hg : Gl X x) (hm : X.mg x = some (.ref f)) (hk : PySem.W.keepIn X.K (.ref f) = true) (hb : Binds X.K fd ps []) (ha : SA X (e :: es) Wa)
    (hdb : (x == ("__debug__" : Str)) = false := by decide) (he : starEach (e :: es) X.env = (false, eval e X.env) :: starEach es X.env := by rfl) (hpl : (backTo pos (starEach es X.env)).any (·.1) = false := by rfl) : SE X (.Call (.Name x p) (e :: es) [] pos) (eCall S Wa) := by
  refine ⟨eCall_mo mS.mo ha.mo, fun F => pe_weak (L2H.pe_callH (E := fun _ => E0) Fk hr hot hg hm hk hb (fun _ => pass0At) (ha.run F) hdb he hpl) ?_⟩
  rintro σ H Q ⟨ts, A, k0, q⟩
  exact ⟨ts, A, k0, ha.mo _ _ _ (fun cs ts1 q vs H1 A1 k1 g1 r1 => call_pure mS k1 g1 r1 q) q⟩
theorem ze_callH (mS : FSok ps.length S) (Fk : L2H.FnH X.prog X.w X.K X.mg X.base CX0 k f fd ps (spT X.K ps.length [] S)) (hot : L2H.HotC X) (hr : L2H.RoomH k X.A) (hg : Gl X x) (hm : X.mg x = some (.ref f)) (hk : PySem.W.keepIn X.K (.ref f) = true) (hb : Binds X.K fd ps []) (ha : ZA z X (e :: es) Wa)
    (hdb : (x == ("__debug__" : Str)) = false := by decide) (he : starEach (e :: es) X.env = (false, eval e X.env) :: starEach es X.env := by rfl) (hpl : (backTo pos (starEach es X.env)).any (·.1) = false := by rfl) : ZE z X (.Call (.Name x p) (e :: es) [] pos) (eCall S Wa) := by
  refine ⟨eCall_mo mS.mo ha.mo, fun F => pe_weak (L2H.pe_callH (E := fun _ => E0) Fk hr hot hg hm hk hb (fun _ => pass0At) (ha.run F) hdb he hpl) ?_⟩
  rintro σ H Q ⟨ts, A, k0, y, q⟩
  exact ⟨ts, A, k0, y, ha.mo _ _ _ (fun cs ts1 q vs H1 A1 k1 g1 r1 => call_pure mS k1 g1 r1 q) q⟩
theorem zd_e1 {K F σ H Q r} {f1 : F1} (s : Sd1 K f1 r) (ma : Mo wa) (h : zdE z K F (e1 f1 wa) σ H Q) : zdO z K F wa σ H fun x H1 => r x H1 Q := by
  obtain ⟨ts, A, k, y, q⟩ := h
  refine ⟨ts, A, k, y, ma _ _ _ (fun c ts1 q v H1 A1 k1 g1 r1 => ?_) q⟩
  obtain ⟨o, h1, q⟩ := cap_res k1 r1 q
  exact s.run _ _ _ _ _ k1.lists h1 (s.mo _ _ _ (fun c => pure_contE k1 g1) q)
/-- isinstance(e.f, T) -/
theorem ze_isi {T : String} {p2 : Pos} (hT : T = "int" ∨ T = "bool" ∨ T = "str" ∨ T = "list" ∨ T = "tuple") (hg : Gl X "isinstance") (hm : X.mg "isinstance" = none) (hg2 : Gl X x) (hm2 : X.mg x = none) (hv : bootBuiltins x = some (.type T)) (ha : ZO z X e wa) (hx : x ≠ "__name__" := by decide) (hdx : (x == ("__debug__" : Str)) = false := by decide)
    (hs : starEach [e, .Name x p2] X.env = (false, eval e X.env) :: starEach [.Name x p2] X.env := by rfl) (hs2 : starEach [.Name x p2] X.env = (false, eval (.Name x p2) X.env) :: starEach [] X.env := by rfl) (hpl : (backTo pos (starEach [.Name x p2] X.env)).any (·.1) = false := by rfl) : ZE z X (.Call (.Name "isinstance" p) [e, .Name x p2] [] pos) (eIs T wa) := by
  have s1 : Sd1 X.K (fun o Q => Q (.bool (isT T o.1), .full)) (fun x H Q => ∃ t b, TyX X.K H x t ∧ PySem.W.kitOne X.K t (.type T) = some b ∧ Q (.bl b) H) :=
    ⟨fun o Q Q' k => k _, fun H M x o Q hM ho h => ⟨_, _, tyx ho.1, kit_of_tyN hT _, q_bl h⟩⟩
  refine ⟨e1_mo s1.mo ha.mo, fun F => pe_weak (pe_callB call_isi hg hm (by decide +kernel) (pa_cons (ha.run F) (pa_cons (pe_bltn hg2 hm2 hv (v := .ty T) rfl hx hdx) pa_nil hs2) hs) (by decide) (by decide) hs hpl) ?_⟩
  intro σ H Q h
  obtain ⟨ts, A, k, y, q⟩ := zd_e1 s1 ha.mo h
  exact ⟨ts, A, k, y, ha.mo _ _ _ (fun c ts1 q v H1 A1 k1 g1 r1 => by
    obtain ⟨t, b, h1, h2, h3⟩ := q v H1 A1 k1 g1 r1
    exact ⟨_, _, t, _, b, rfl, .ty T, h1, h2, h3⟩) q⟩
end
end TV
end
set_option Elab.async false
set_option linter.all false
set_option maxRecDepth 100000
set_option maxHeartbeats 2000000
/-! Part 32: a value that is shared from its birth. -/
section
namespace TV
open PySem PySem.Spec L2
def eFz (W : WE) : WE := fun ts Q => W ts fun c ts1 => Q (c.1, .fz) ts1
theorem contE_fz {K F σ H A Q ts'} {c : TVal} (h : contE K F σ H A Q (c.1, .fz) ts') : contE K F σ H A Q c ts' := fun v H' A' B k nb fb g w => by
  have hr : Rp K H' (fun a => F a ∨ a ∈ A') v c.1 := Ow.give _ _ _ _ w (fun a x => x.elim (fun f => .inl (.inl f)) .inr) fun a ha x => x.elim (fb a ha) fun y => k.dj a y (.inr ha)
  have e : (fun a => F a ∨ a ∈ ([] : List Addr)) = F := by
    funext a
    simp
  refine h v H' A' [] ?_ List.nodup_nil (fun a ha => by cases ha) ?_ ?_
  · rw [e]; exact k.unpend
  · rw [List.append_nil]; exact g.less fun x hx => List.mem_append_left _ hx
  · have e2 : (fun a => (F a ∨ a ∈ ([] : List Addr)) ∨ a ∈ A') = fun a => F a ∨ a ∈ A' := by
      funext a
      simp
    rw [e2]
    exact .fz hr
theorem se_fz {X : Cx} {e : Expr} {W : WE} (h : SE X e W) : SE X e (eFz W) :=
  ⟨fun ts Q Q' k => h.mo _ _ _ fun _ _ => k _ _, fun F => pe_weak (h.run F) fun σ H Q ⟨ts, A, c, q⟩ => ⟨ts, A, c, h.mo _ _ _ (fun _ _ => contE_fz) q⟩⟩
end TV
end
set_option Elab.async false
set_option linter.all false
set_option maxRecDepth 100000
set_option maxHeartbeats 2000000
/-! Part 33: the order of tuples of numbers, equal ones too. -/
section
namespace TV
open PySem PySem.Spec L2
def lexA (ns ms : List Int) : Bool := Ob.lexAt (fun j => decide (ns.getD j 0 = ms.getD j 0)) (fun j => decide (ns.getD j 0 ≤ ms.getD j 0)) (decide (ns.length ≤ ms.length)) 0 (min ns.length ms.length)
def fLe : F2 := fun o q Q => match o.1, q.1 with
  | .int i, .int j => Q (.bool (decide (i ≤ j)), .full)
  | .tuple xs, .tuple ys => ∃ ns ms, intsOf xs = some ns ∧ intsOf ys = some ms ∧ Q (.bool (lexA ns ms), .full)
  | _, _ => False
theorem sd_le {K} : Sd2 K fLe (fun x y H Q => (rI0 fun i j => V.bl (decide (i ≤ j))) x y H Q ∨ rLeT K x y H Q) := by
  refine ⟨by intro o p Q Q' k h; obtain ⟨d, b⟩ := o; obtain ⟨e, c⟩ := p; cases d <;> cases e <;> first | exact False.elim h | exact k _ h | exact h.imp fun _ h => h.imp fun _ h => ⟨h.1, h.2.1, k _ h.2.2⟩, fun H M x y o p Q hM ho hp h => ?_⟩
  obtain ⟨d, b⟩ := o
  obtain ⟨e, c⟩ := p
  cases d <;> cases e <;> first | exact False.elim h | skip
  · exact .inl ⟨_, _, opn_int ho rfl, opn_int hp rfl, q_bl h⟩
  · obtain ⟨ns, ms, e1, e2, q⟩ := h
    obtain ⟨a, xs, rfl, s1, r1⟩ := opn_tupD ho rfl
    obtain ⟨a2, ys, rfl, s2, r2⟩ := opn_tupD hp rfl
    rw [intsOf_eq e1] at r1
    rw [intsOf_eq e2] at r2
    rw [dp_ints r1] at s1
    rw [dp_ints r2] at s2
    exact .inr ⟨a, a2, ns, ms, rfl, rfl, s1, s2, q_bl q⟩
theorem op_leA {X : Cx} (hu : X.A.units + 65 < cLine) : OpR X (compareOp .LtE) (fun x y H Q => (rI0 fun i j => V.bl (decide (i ≤ j))) x y H Q ∨ rLeT X.K x y H Q) := op_le.or (op_leT (by omega))
theorem lexA_pr (a b c d : Int) : lexA [a, b] [c, d] = decide (a < c ∨ (a = c ∧ b ≤ d)) := by
  unfold lexA
  rw [show min ([a, b] : List Int).length ([c, d] : List Int).length = 2 from rfl]
  simp only [Ob.lexAt, List.getD_cons_zero, List.getD_cons_succ, List.length_cons, List.length_nil]
  by_cases h1 : a = c
  · by_cases h2 : b = d
    · simp [h1, h2]
    · simp [h1, h2]
  · simp [h1]
    omega
end TV
end
set_option Elab.async false
set_option linter.all false
set_option maxRecDepth 100000
set_option maxHeartbeats 1000000
/-! Part 34: f(a, b, x): x is handed on as one's own and comes back. -/
section
namespace TV
open PySem PySem.Spec L2
def eCallL (S : FSpec) (i0 i1 i2 : Nat) : WE := fun ts Q => ∃ c0 c1 c2, ts[i0]? = some (some c0) ∧ ts[i1]? = some (some c1) ∧ ts[i2]? = some (some c2) ∧ i0 ≠ i1 ∧ i0 ≠ i2 ∧ i1 ≠ i2 ∧
  S [(c0.1, .fz), (c1.1, .fz), c2] fun r fins => ∃ c', fins = [c'] ∧ Q r (((ts.set i0 (some (c0.1, .fz))).set i1 (some (c1.1, .fz))).set i2 (some c'))
section
variable {X : Cx} {k : Nat} {f : Addr} {fd : FuncData} {ps : List Str} {S : FSpec} {x : Str} {pos : Pos} {e0 e1 e2 : Expr} {i0 i1 i2 : Nat}
theorem se_callL (mS : FSok ps.length S) (Fk : FnOk X.prog X.w X.K X.mg X.base CX0 k f fd ps (spT X.K ps.length [2] S)) (hr : Room k X.A) (hg : Gl X x) (hm : X.mg x = some (.ref f)) (hk : PySem.W.keepIn X.K (.ref f) = true) (hb : Binds X.K fd ps []) (h0 : PE X e0 (tVar i0)) (h1 : PE X e1 (tVar i1)) (h2 : PE X e2 (tVar i2))
    (hdb : (x == ("__debug__" : Str)) = false := by decide) (he : starEach [e0, e1, e2] X.env = (false, eval e0 X.env) :: starEach [e1, e2] X.env := by rfl) (he1 : starEach [e1, e2] X.env = (false, eval e1 X.env) :: starEach [e2] X.env := by rfl) (he2 : starEach [e2] X.env = (false, eval e2 X.env) :: starEach [] X.env := by rfl) (hpl : (backTo pos (starEach [e1, e2] X.env)).any (·.1) = false := by rfl) : SE X (.Call (.Name x p) [e0, e1, e2] [] pos) (eCallL S i0 i1 i2) := by
  refine ⟨fun ts Q Q' k ⟨c0, c1, c2, a0, a1, a2, n1, n2, n3, q⟩ => ⟨c0, c1, c2, a0, a1, a2, n1, n2, n3, mS.mo _ _ _ (fun r fins ⟨c', ef, q⟩ => ⟨c', ef, k _ _ q⟩) q⟩, fun F => pe_weak (pe_call Fk hr hg hm hk hb .nil pass0 (pa_cons h0 (pa_cons h1 (pa_cons h2 pa_nil he2) he1) he) hdb he hpl) ?_⟩
  rintro σ H Q ⟨ts, A, k0, c0, c1, c2, g0, g1, g2, n1, n2, n3, q⟩
  obtain ⟨v0, A1, hσ0, ka, sub1, r0⟩ := k0.share g0
  have g1' : (ts.set i0 (some (c0.1, .fz)))[i1]? = some (some c1) := by rw [List.getElem?_set_ne n1]; exact g1
  obtain ⟨v1, A2, hσ1, kb, sub2, r1⟩ := ka.share g1'
  have g2' : ((ts.set i0 (some (c0.1, .fz))).set i1 (some (c1.1, .fz)))[i2]? = some (some c2) := by rw [List.getElem?_set_ne n3, List.getElem?_set_ne n2]; exact g2
  obtain ⟨v2, B0, A3, hσ2, w0, hp, k2, nb0, fb0⟩ := kb.take g2'
  refine ⟨v0, hσ0, v1, hσ1, v2, hσ2, ?_⟩
  show spT X.K ps.length [2] S ([v0, v1, v2] ++ []) H Q E0
  rw [List.append_nil]
  have hi : i2 < (((ts.set i0 (some (c0.1, .fz))).set i1 (some (c1.1, .fz)))).length := (List.getElem?_eq_some_iff.mp g2').1
  have inB0 : ∀ a ∈ B0, a ∈ A2 := fun a ha => hp.mem_iff.mpr (List.mem_append_left _ ha)
  have inA3 : ∀ a ∈ A3, a ∈ A2 := fun a ha => hp.mem_iff.mpr (List.mem_append_right _ ha)
  have kA : Core X.K (fun a => F a ∨ a ∈ A3) ([(c0.1, Own.fz), (c1.1, Own.fz), c2].map some) ([v0, v1, v2].map some) H B0 := by
    refine ⟨nb0, fun a ha f => f.elim (fun f => fb0 a ha f) fun h => k2.dj a h (.inr ha), fun a f => f.elim (fun f => k0.fa a f) (k2.there a), [] ++ ([] ++ (B0 ++ [])), by simp, .sv (.fz (Rp.stay (stay_less fun a x => ?_) _ _ r0)) (.sv (.fz (Rp.stay (stay_less fun a x => ?_) _ _ r1)) (.sv (Ow.stay (stay_less fun a x => ?_) _ _ _ _ w0 fun _ _ => rfl) .nil))⟩
    · rcases x with (x | x) | x
      · exact .inl x
      · exact .inr (sub2 a (inA3 a x))
      · exact .inr (sub2 a (inB0 a x))
    · rcases x with (x | x) | x
      · exact .inl x
      · exact .inr (inA3 a x)
      · exact .inr (inB0 a x)
    · rcases x with (x | x) | x
      · exact .inl x
      · exact .inr (inA3 a x)
      · exact .inr (inB0 a x)
  refine ⟨(mS.len _ _ q), fun a => F a ∨ a ∈ A3, B0, [(c0.1, .fz), (c1.1, .fz), c2], kA, mS.mo _ _ _ (fun r fins ⟨c', ef, q⟩ u H' A' B' R => ?_) q⟩
  subst ef
  have wf : Ow X.K H' (fun a => (F a ∨ a ∈ A3) ∨ a ∈ A' ++ B') c'.2 v2 c'.1 A' := by
    have h := R.fin
    unfold pick at h
    cases h with
    | cons h r => cases r; rw [List.append_nil] at h ⊢; exact h
  have thB : ∀ a ∈ B', ∃ xs, H' a = some (.lst xs) := Ow.there _ _ _ _ R.ow
  have thA : ∀ a ∈ A', ∃ xs, H' a = some (.lst xs) := Ow.there _ _ _ _ wf
  obtain ⟨nA', nB', dAB⟩ := List.nodup_append.mp R.nd
  have fB' : ∀ a ∈ B', ¬ F a := fun a ha f => R.dj a (List.mem_append_right _ ha) (.inl f)
  have ky := io_core (A' := A') (B := B') k2 (fun b o e n => R.chg.ext b o e n) R.chg.sub fb0 thB thA
  have wfx : Ow X.K H' (fun a => ((F a ∨ a ∈ B') ∨ a ∈ A') ∨ a ∈ A3) c'.2 v2 c'.1 A' := by
    refine Ow.stay (stay_less fun b x => ?_) _ _ _ _ wf fun _ _ => rfl
    rcases x with ((x | x) | x) | x
    · exact .inl (.inl x)
    · exact .inr (List.mem_append_right _ x)
    · exact .inr (List.mem_append_left _ x)
    · exact .inl (.inr x)
  obtain ⟨A4, k4, s4⟩ := ky.put (v := v2) (c := c') nA' (fun a ha f => f.elim (fun f => R.dj a (List.mem_append_left _ ha) (.inl f)) fun h => dAB a ha a h rfl) (by rw [List.length_set]; exact hi) wfx
  · rw [set_noop hσ2, List.set_set] at k4
    have inA : ∀ a ∈ A2, a ∈ A := fun a h => sub1 a (sub2 a h)
    refine q u H' A4 B' k4 nB' fB' ⟨fun b o e n => R.chg.ext b o e fun h => n (inA b (inB0 b h)), fun y hy => ?_⟩ (Ow.stay (stay_less fun b x => ?_) _ _ _ _ R.ow fun _ _ => rfl)
    · have up : y ∈ A' ++ B' → y ∈ A ∨ H y = none := fun h => (R.chg.sub y h).imp (fun h => inA y (inB0 y h)) id
      rcases List.mem_append.mp hy with hy | hy
      · rcases s4 y hy with h | h
        · exact .inl (inA y (inA3 y h))
        · exact up (List.mem_append_left _ h)
      · exact up (List.mem_append_right _ hy)
    · rcases x with (x | x) | x
      · exact .inl (.inl x)
      · exact .inr (List.mem_append_right _ x)
      · rcases s4 b x with h | h
        · exact .inl (.inr h)
        · exact .inr (List.mem_append_left _ h)
end
end TV
end

set_option maxHeartbeats 4000000
section
namespace TV
open PySem PySem.Spec L2
/-! what each def reads as -/


def w__law_corners (S__law_draw : FSpec) : WS :=
  (wRet (e2 fAdd (oE (eC (.int 3))) (oE (eCallIo S__law_draw (aCons (oV 0) (aCons (oE (e2 fSub (oV 1) (oE (eC (.int 2))))) aNil))))))


def w__law_cuts (S__law_draw : FSpec) : WS :=
  (wSeq (wAsg (eLst vNil) (gN 2))
    (wSeq (wAsg (eLst (vCons (eTup (vCons (eC (.int 0)) (vCons (e2 fSub (oV 1) (oE (eC (.int 1)))) vNil))) vNil)) (gN 3))
    (wSeq (wAsg (eCallIo S__law_draw (aCons (oV 0) (aCons (oE (eC (.int 6))) aNil))) (gN 4))
    (wSeq (wFor (iR1 (oE (e2 fMul (oE (eC (.int 2))) (oV 1)))) (gN 5) (wIf (tOf (e2 (fCmp fun i j => decide (j < i)) (oE (eN (on1 fLen) (aCons (oV 3) aNil))) (oE (eC (.int 0))))) (wSeq (wAsg (eMut mPop 3 aNil) (gT 2 (gsCons (gN 6) (gsCons (gN 7) gsNil))))
    (wSeq (wAsg (eLst (vCons (e2 fAdd (oV 6) (oE (eC (.int 1)))) (vCons (e2 fSub (oV 7) (oE (eC (.int 1)))) (vCons (e2 fDiv (oE (e2 fAdd (oV 6) (oV 7))) (oE (eC (.int 2)))) vNil)))) (gN 8))
    (wSeq (wAsg (e2 fAdd (oE (e2 fAdd (oV 6) (oE (eC (.int 1))))) (oE (eCallIo S__law_draw (aCons (oV 0) (aCons (oE (e2 fSub (oE (e2 fSub (oV 7) (oV 6))) (oE (eC (.int 1))))) aNil))))) (gN 9))
    (wSeq (wIf (tOf (e2 fLt (oV 4) (oE (eC (.int 3))))) (wAsg (e2 fIx (oV 8) (oV 4)) (gN 9)) wNext)
    (wFor (iSeq (eLst (vCons (eTup (vCons (eV 6) (vCons (eV 9) vNil))) (vCons (eTup (vCons (eV 9) (vCons (eV 7) vNil))) vNil)))) (gN 10) (wIf (tOf (e2 (fCmp fun i j => decide (j < i)) (oE (e2 fSub (oE (e2 fIx (oV 10) (oE (eC (.int 1))))) (oE (e2 fIx (oV 10) (oE (eC (.int 0))))))) (oE (eC (.int 1))))) (wSeq (wExpr (eApp 2 (eV 10)))
    (wExpr (eApp 3 (eV 10)))) wNext)))))) wNext))
    (wRet (eN (on1 fSortT) (aCons (oV 2) aNil)))))))


def w_is_joined : WS :=
  (wSeq (wAsg (eN (on2 fMin2) (aCons (oV 2) (aCons (oV 3) aNil))) (gN 4))
    (wSeq (wAsg (eN (on2 fMax2) (aCons (oV 2) (aCons (oV 3) aNil))) (gN 5))
    (wRet (eOr (e2 (fIn false) (oE (e2 fSub (oV 5) (oV 4))) (oE (eTup (vCons (eC (.int 1)) (vCons (e2 fSub (oV 0) (oE (eC (.int 1)))) vNil))))) (e2 (fIn false) (oE (eTup (vCons (eV 4) (vCons (eV 5) vNil)))) (oV 1))))))


def w_other_chord (S_is_joined : FSpec) : WS :=
  (wSeq (wAsg (eV 2) (gT 2 (gsCons (gN 3) (gsCons (gN 4) gsNil))))
    (wSeq (wAsg (eLc (iR1 (oV 0)) (gN 6) (tAnd (tOf (e2 fNe (oV 6) (oV 3))) (tOf (e2 fNe (oV 6) (oV 4)))) (eV 6) [6]) (gN 5))
    (wSeq (wAsg (eLc (iSeq (eV 5)) (gN 6) (tAnd (tOf (eCall S_is_joined (aCons (oV 0) (aCons (oV 1) (aCons (oV 3) (aCons (oV 6) aNil)))))) (tOf (eCall S_is_joined (aCons (oV 0) (aCons (oV 1) (aCons (oV 4) (aCons (oV 6) aNil))))))) (eV 6) [6]) (gN 7))
    (wRet (eTup (vCons (e2 fIx (oV 7) (oE (eC (.int 0)))) (vCons (e2 fIx (oV 7) (oE (eC (.int 1)))) vNil)))))))


def w_with_flip (S_other_chord : FSpec) : WS :=
  (wRet (eN (on1 fSortT) (aCons (oE (e2 fAdd (oE (eLc (iSeq (eV 1)) (gN 3) (tOf (e2 fNe (oV 3) (oV 2))) (eV 3) [3])) (oE (eLst (vCons (eCall S_other_chord (aCons (oV 0) (aCons (oV 1) (aCons (oV 2) aNil)))) vNil))))) aNil)))


def w_way_to_corner (S_other_chord : FSpec) (S_with_flip : FSpec) : WS :=
  (wSeq (wAsg (eLst vNil) (gN 2))
    (wSeq (wAsg (eLst vNil) (gN 3))
    (wSeq (wAsg (eN (on1 fList) (aCons (oV 1) aNil)) (gN 4))
    (wSeq (wWhile (tOf (eN (on1 (fBools fun bs => bs.any id)) (aCons (oE (eLc (iSeq (eV 4)) (gN 5) tTrue (e2 (fCmp fun i j => decide (j < i)) (oE (e2 fIx (oV 5) (oE (eC (.int 0))))) (oE (eC (.int 0)))) [5])) aNil))) (wSeq (wAsg (eLc (iSeq (eV 4)) (gN 5) (tAnd (tOf (e2 (fCmp fun i j => decide (j < i)) (oE (e2 fIx (oV 5) (oE (eC (.int 0))))) (oE (eC (.int 0))))) (tOf (e2 fEq (oE (e2 fIx (oE (eCall S_other_chord (aCons (oV 0) (aCons (oV 4) (aCons (oV 5) aNil))))) (oE (eC (.int 0))))) (oE (eC (.int 0)))))) (eV 5) [5]) (gN 6))
    (wSeq (wExpr (eApp 2 (e2 fIx (oV 6) (oE (eC (.int 0))))))
    (wSeq (wExpr (eApp 3 (eCall S_other_chord (aCons (oV 0) (aCons (oV 4) (aCons (oE (e2 fIx (oV 6) (oE (eC (.int 0))))) aNil))))))
    (wAsg (eCall S_with_flip (aCons (oV 0) (aCons (oV 4) (aCons (oE (e2 fIx (oV 6) (oE (eC (.int 0))))) aNil)))) (gN 4))))))
    (wRet (eTup (vCons (eMv 2) (vCons (eMv 3) vNil))))))))


def w_lead_over (S_way_to_corner : FSpec) : WS :=
  (wSeq (wAsg (eCall S_way_to_corner (aCons (oV 0) (aCons (oV 1) aNil))) (gT 2 (gsCons (gN 3) (gsCons (gN 4) gsNil))))
    (wSeq (wAsg (eCall S_way_to_corner (aCons (oV 0) (aCons (oV 2) aNil))) (gT 2 (gsCons (gN 4) (gsCons (gN 5) gsNil))))
    (wRet (e2 fAdd (oV 3) (oE (e1 fRevL (oV 5)))))))


def w__law_joined : WS :=
  (wSeq (wAsg (eN (on2 fMin2) (aCons (oV 2) (aCons (oV 3) aNil))) (gN 4))
    (wSeq (wAsg (eN (on2 fMax2) (aCons (oV 2) (aCons (oV 3) aNil))) (gN 5))
    (wRet (eOr (e2 fEq (oE (e2 fSub (oV 5) (oV 4))) (oE (eC (.int 1)))) (eOr (eAnd (e2 fEq (oV 4) (oE (eC (.int 0)))) (e2 fEq (oV 5) (oE (e2 fSub (oV 0) (oE (eC (.int 1))))))) (e2 (fIn false) (oE (eTup (vCons (eV 4) (vCons (eV 5) vNil)))) (oV 1)))))))


def w__law_both (S__law_joined : FSpec) : WS :=
  (wRet (eAnd (eCall S__law_joined (aCons (oV 0) (aCons (oV 1) (aCons (oE (e2 fIx (oV 2) (oE (eC (.int 0))))) (aCons (oV 3) aNil))))) (eCall S__law_joined (aCons (oV 0) (aCons (oV 1) (aCons (oE (e2 fIx (oV 2) (oE (eC (.int 1))))) (aCons (oV 3) aNil)))))))


def w__law_come (S__law_both : FSpec) : WS :=
  (wSeq (wAsg (eLc (iR2 (oE (e2 fAdd (oE (e2 fIx (oV 2) (oE (eC (.int 0))))) (oE (eC (.int 1))))) (oE (e2 fIx (oV 2) (oE (eC (.int 1)))))) (gN 4) (tOf (eCall S__law_both (aCons (oV 0) (aCons (oV 1) (aCons (oV 2) (aCons (oV 4) aNil)))))) (eV 4) [4]) (gN 3))
    (wSeq (wAsg (eLc (iR1 (oV 0)) (gN 4) (tAnd (tOr (tOf (e2 fLt (oV 4) (oE (e2 fIx (oV 2) (oE (eC (.int 0))))))) (tOf (e2 (fCmp fun i j => decide (j < i)) (oV 4) (oE (e2 fIx (oV 2) (oE (eC (.int 1)))))))) (tOf (eCall S__law_both (aCons (oV 0) (aCons (oV 1) (aCons (oV 2) (aCons (oV 4) aNil))))))) (eV 4) [4]) (gN 5))
    (wRet (eTup (vCons (eN (on2 fMin2) (aCons (oE (e2 fIx (oV 3) (oE (eC (.int 0))))) (aCons (oE (e2 fIx (oV 5) (oE (eC (.int 0))))) aNil))) (vCons (eN (on2 fMax2) (aCons (oE (e2 fIx (oV 3) (oE (eC (.int 0))))) (aCons (oE (e2 fIx (oV 5) (oE (eC (.int 0))))) aNil))) vNil))))))


def w__law_flipped (S__law_come : FSpec) : WS :=
  (wRet (eN (on1 fSortT) (aCons (oE (e2 fAdd (oE (eLc (iSeq (eV 1)) (gN 3) (tOf (e2 fNe (oV 3) (oV 2))) (eV 3) [3])) (oE (eLst (vCons (eCall S__law_come (aCons (oV 0) (aCons (oV 1) (aCons (oV 2) aNil)))) vNil))))) aNil)))


def w__law_walked (S__law_come : FSpec) (S__law_flipped : FSpec) : WS :=
  (wSeq (wAsg (eV 1) (gN 3))
    (wSeq (wAsg (eLst vNil) (gN 4))
    (wSeq (wForB 2 (gN 5) (wSeq (wIf (tOf (e2 (fIn true) (oV 5) (oV 3))) (wRet (eLst (vCons (eC .none) (vCons (eV 4) vNil)))) wNext)
    (wSeq (wExpr (eApp 4 (eCall S__law_come (aCons (oV 0) (aCons (oV 3) (aCons (oV 5) aNil))))))
    (wAsg (eCall S__law_flipped (aCons (oV 0) (aCons (oV 3) (aCons (oV 5) aNil)))) (gN 3)))))
    (wRet (eLst (vCons (eV 3) (vCons (eV 4) vNil)))))))


def w_flipped (S_with_flip : FSpec) : WS :=
  (wSeq (wIf (tOf (e2 (fIn true) (oV 2) (oV 1))) wNever wNext)
    (wRet (eCall S_with_flip (aCons (oV 0) (aCons (oV 1) (aCons (oV 2) aNil))))))


def w__law_whole : WS :=
  (wRet (eAnd (eIs "int" (oV 0)) (eNot (eIs "bool" (oV 0)))))


def w__law_chords_same (S__law_whole : FSpec) : WS :=
  (wSeq (wIf (tOr (tNot (tOf (eIs "list" (oV 0)))) (tOf (e2 fNe (oE (eN (on1 fLen) (aCons (oV 0) aNil))) (oE (eN (on1 fLen) (aCons (oV 1) aNil)))))) (wRet (eC (.bool false))) wNext)
    (wSeq (wFor (iR1 (oE (eN (on1 fLen) (aCons (oV 1) aNil)))) (gN 2) (wSeq (wAsg (e2 fIx (oV 0) (oV 2)) (gN 3))
    (wSeq (wIf (tOr (tNot (tOf (eIs "tuple" (oV 3)))) (tOf (e2 fNe (oE (eN (on1 fLen) (aCons (oV 3) aNil))) (oE (eC (.int 2)))))) (wRet (eC (.bool false))) wNext)
    (wIf (tOr (tNot (tOf (eCall S__law_whole (aCons (oE (e2 fIx (oV 3) (oE (eC (.int 0))))) aNil)))) (tOr (tNot (tOf (eCall S__law_whole (aCons (oE (e2 fIx (oV 3) (oE (eC (.int 1))))) aNil)))) (tOf (e2 fNe (oV 3) (oE (e2 fIx (oV 1) (oV 2))))))) (wRet (eC (.bool false))) wNext))))
    (wRet (eC (.bool true)))))


def w__law_way (S__law_come : FSpec) (S__law_flipped : FSpec) : WS :=
  (wSeq (wAsg (eLst vNil) (gN 2))
    (wSeq (wAsg (eLst vNil) (gN 3))
    (wSeq (wAsg (eV 1) (gN 4))
    (wSeq (wFor (iR1 (oV 0)) (gN 5) (wSeq (wAsg (eLc (iSeq (eV 4)) (gN 7) (tAnd (tOf (e2 (fCmp fun i j => decide (j < i)) (oE (e2 fIx (oV 7) (oE (eC (.int 0))))) (oE (eC (.int 0))))) (tOf (e2 fEq (oE (e2 fIx (oE (eCall S__law_come (aCons (oV 0) (aCons (oV 4) (aCons (oV 7) aNil))))) (oE (eC (.int 0))))) (oE (eC (.int 0)))))) (eV 7) [7]) (gN 6))
    (wIf (tOf (e2 (fCmp fun i j => decide (j < i)) (oE (eN (on1 fLen) (aCons (oV 6) aNil))) (oE (eC (.int 0))))) (wSeq (wExpr (eApp 2 (e2 fIx (oV 6) (oE (eC (.int 0))))))
    (wSeq (wExpr (eApp 3 (eCall S__law_come (aCons (oV 0) (aCons (oV 4) (aCons (oE (e2 fIx (oV 6) (oE (eC (.int 0))))) aNil))))))
    (wAsg (eCall S__law_flipped (aCons (oV 0) (aCons (oV 4) (aCons (oE (e2 fIx (oV 6) (oE (eC (.int 0))))) aNil)))) (gN 4)))) wNext)))
    (wRet (eLst (vCons (eV 2) (vCons (eV 3) vNil))))))))


def w__law_yes : WS :=
  (wRet (eAnd (eIs "bool" (oV 0)) (e2 fEq (oV 0) (oV 1))))


def w_flip_of (S_other_chord : FSpec) : WS :=
  (wSeq (wIf (tOf (e2 (fIn true) (oV 2) (oV 1))) wNever wNext)
    (wRet (eCall S_other_chord (aCons (oV 0) (aCons (oV 1) (aCons (oV 2) aNil))))))


def w_is_whole : WS :=
  (wRet (eAnd (eIs "int" (oV 0)) (eNot (eIs "bool" (oV 0)))))


def w_is_whole_tuple (S_is_whole : FSpec) : WS :=
  (wSeq (wIf (tOr (tNot (tOf (eIs "tuple" (oV 0)))) (tOf (e2 fNe (oE (eN (on1 fLen) (aCons (oV 0) aNil))) (oV 1)))) (wRet (eC (.bool false))) wNext)
    (wRet (eN (on1 (fBools fun bs => bs.all id)) (aCons (oE (eLc (iSeq (eV 0)) (gN 2) tTrue (eCall S_is_whole (aCons (oV 2) aNil)) [2])) aNil))))


def w_are_pairs (S_is_whole_tuple : FSpec) : WS :=
  (wRet (eAnd (eIs "list" (oV 0)) (eN (on1 (fBools fun bs => bs.all id)) (aCons (oE (eLc (iSeq (eV 0)) (gN 1) tTrue (eCall S_is_whole_tuple (aCons (oV 1) (aCons (oE (eC (.int 2))) aNil))) [1])) aNil))))


def w_shows_flips (S_are_pairs : FSpec) (S_with_flip : FSpec) : WS :=
  (wSeq (wIf (tNot (tOf (eCall S_are_pairs (aCons (oV 3) aNil)))) (wRet (eC (.bool false))) wNext)
    (wSeq (wAsg (eN (on1 fList) (aCons (oV 1) aNil)) (gN 4))
    (wSeq (wFor (iSeq (eV 3)) (gN 5) (wSeq (wIf (tOf (e2 (fIn true) (oV 5) (oV 4))) (wRet (eC (.bool false))) wNext)
    (wAsg (eCall S_with_flip (aCons (oV 0) (aCons (oV 4) (aCons (oV 5) aNil)))) (gN 4))))
    (wRet (e2 fEq (oV 4) (oV 2))))))


def w__law_lead_right (S__law_way : FSpec) (S_lead_over : FSpec) (S__law_chords_same : FSpec) (S__law_walked : FSpec) (S__law_yes : FSpec) (S_shows_flips : FSpec) (S_flip_of : FSpec) (S_flipped : FSpec) : WS :=
  (wSeq (wAsg (e2 fAdd (oE (e2 fIx (oE (eCall S__law_way (aCons (oV 0) (aCons (oV 1) aNil)))) (oE (eC (.int 0))))) (oE (e1 fRevL (oE (e2 fIx (oE (eCall S__law_way (aCons (oV 0) (aCons (oV 2) aNil)))) (oE (eC (.int 1)))))))) (gN 3))
    (wSeq (wAsg (eFz (eLst (vCons (eN (on1 fList) (aCons (oV 1) aNil)) (vCons (eN (on1 fList) (aCons (oV 2) aNil)) vNil)))) (gN 4))
    (wSeq (wAsg (eCall S_lead_over (aCons (oV 0) (aCons (oE (e2 fIx (oV 4) (oE (eC (.int 0))))) (aCons (oE (e2 fIx (oV 4) (oE (eC (.int 1))))) aNil)))) (gN 5))
    (wSeq (wIf (tOr (tNot (tOf (eCall S__law_chords_same (aCons (oV 5) (aCons (oV 3) aNil))))) (tOf (e2 fNe (oV 4) (oE (eLst (vCons (eV 1) (vCons (eV 2) vNil))))))) (wRet (eC (.bool false))) wNext)
    (wSeq (wAsg (eFz (eCallL S__law_walked 0 1 5)) (gN 6))
    (wSeq (wIf (tOf (e2 fNe (oE (e2 fIx (oV 6) (oE (eC (.int 0))))) (oV 2))) (wRet (eC (.bool false))) wNext)
    (wSeq (wIf (tOf (e2 fNe (oE (eN (on1 fLen) (aCons (oV 5) aNil))) (oE (eN (on1 fLen) (aCons (oE (eLc (iSeq (e2 fAdd (oV 1) (oV 2))) (gN 7) (tOf (e2 (fCmp fun i j => decide (j < i)) (oE (e2 fIx (oV 7) (oE (eC (.int 0))))) (oE (eC (.int 0))))) (eV 7) [7])) aNil))))) (wRet (eC (.bool false))) wNext)
    (wSeq (wIf (tOr (tNot (tOf (eCall S__law_yes (aCons (oE (eCall S_shows_flips (aCons (oV 0) (aCons (oE (e2 fIx (oV 4) (oE (eC (.int 0))))) (aCons (oE (e2 fIx (oV 4) (oE (eC (.int 1))))) (aCons (oE (eN (on1 fList) (aCons (oV 3) aNil))) aNil)))))) (aCons (oE (eC (.bool true))) aNil))))) (tOf (e2 fNe (oV 4) (oE (eLst (vCons (eV 1) (vCons (eV 2) vNil))))))) (wRet (eC (.bool false))) wNext)
    (wSeq (wAsg (e1 fRevL (oE (e2 fIx (oV 6) (oE (eC (.int 1)))))) (gN 8))
    (wSeq (wIf (tOr (tOf (e2 fNe (oE (e2 fIx (oE (eCallL S__law_walked 0 2 8)) (oE (eC (.int 0))))) (oV 1))) (tNot (tOf (eCall S__law_yes (aCons (oE (eCall S_shows_flips (aCons (oV 0) (aCons (oE (eN (on1 fList) (aCons (oV 2) aNil))) (aCons (oE (eN (on1 fList) (aCons (oV 1) aNil))) (aCons (oV 8) aNil)))))) (aCons (oE (eC (.bool true))) aNil)))))) (wRet (eC (.bool false))) wNext)
    (wSeq (wAsg (eN (on1 fList) (aCons (oV 1) aNil)) (gN 9))
    (wSeq (wFor (iR1 (oE (eN (on1 fLen) (aCons (oV 3) aNil)))) (gN 10) (wSeq (wIf (tOf (e2 fNe (oE (eCall S_flip_of (aCons (oV 0) (aCons (oE (eN (on1 fList) (aCons (oV 9) aNil))) (aCons (oE (e2 fIx (oV 3) (oV 10))) aNil))))) (oE (eK (kIx (kIx (kV 6) (kC (.int 1))) (kV 10)))))) (wRet (eC (.bool false))) wNext)
    (wAsg (eCall S_flipped (aCons (oV 0) (aCons (oE (eN (on1 fList) (aCons (oV 9) aNil))) (aCons (oE (e2 fIx (oV 3) (oV 10))) aNil)))) (gN 9))))
    (wSeq (wExpr (eApp 5 (eTup (vCons (eC (.int 0)) (vCons (eC (.int 2)) vNil)))))
    (wRet (eAnd (e2 fEq (oV 9) (oV 2)) (eCall S__law_chords_same (aCons (oE (eCall S_lead_over (aCons (oV 0) (aCons (oE (eN (on1 fList) (aCons (oV 1) aNil))) (aCons (oE (eN (on1 fList) (aCons (oV 2) aNil))) aNil))))) (aCons (oV 3) aNil))))))))))))))))))


def w_law (S__law_corners : FSpec) (S__law_cuts : FSpec) (S__law_lead_right : FSpec) (S_lead_over : FSpec) : WS :=
  (wSeq (wAsg (eCallIo S__law_corners (aCons (oV 1) (aCons (oE (eC (.int 12))) aNil))) (gN 2))
    (wSeq (wAsg (eCallIo S__law_cuts (aCons (oV 1) (aCons (oV 2) aNil))) (gN 3))
    (wSeq (wAsg (eCallIo S__law_cuts (aCons (oV 1) (aCons (oV 2) aNil))) (gN 4))
    (wSeq (wAsg (eLc (iR2 (oE (eC (.int 2))) (oE (e2 fSub (oV 2) (oE (eC (.int 1)))))) (gN 6) tTrue (eTup (vCons (eC (.int 0)) (vCons (eV 6) vNil))) [6]) (gN 5))
    (wSeq (wFor (iSeq (eLst (vCons (eLst (vCons (eV 3) (vCons (eV 4) vNil))) (vCons (eLst (vCons (eV 4) (vCons (eV 3) vNil))) (vCons (eLst (vCons (eV 3) (vCons (eV 5) vNil))) (vCons (eLst (vCons (eV 5) (vCons (eV 4) vNil))) (vCons (eLst (vCons (eV 3) (vCons (eV 3) vNil))) vNil))))))) (gN 7) (wIf (tNot (tOf (eCall S__law_lead_right (aCons (oV 2) (aCons (oE (e2 fIx (oV 7) (oE (eC (.int 0))))) (aCons (oE (e2 fIx (oV 7) (oE (eC (.int 1))))) aNil)))))) (wRet (eC (.bool false))) wNext))
    (wSeq (wIf (tOf (e2 fNe (oE (eCall S_lead_over (aCons (oV 2) (aCons (oE (eN (on1 fList) (aCons (oV 5) aNil))) (aCons (oE (eN (on1 fList) (aCons (oV 5) aNil))) aNil))))) (oE (eLst vNil)))) (wRet (eC (.bool false))) wNext)
    (wRet (e2 fEq (oE (eCall S_lead_over (aCons (oE (eC (.int 5))) (aCons (oE (eLst (vCons (eTup (vCons (eC (.int 1)) (vCons (eC (.int 3)) vNil))) (vCons (eTup (vCons (eC (.int 1)) (vCons (eC (.int 4)) vNil))) vNil)))) (aCons (oE (eLst (vCons (eTup (vCons (eC (.int 0)) (vCons (eC (.int 2)) vNil))) (vCons (eTup (vCons (eC (.int 2)) (vCons (eC (.int 4)) vNil))) vNil)))) aNil))))) (oE (eLst (vCons (eTup (vCons (eC (.int 1)) (vCons (eC (.int 4)) vNil))) (vCons (eTup (vCons (eC (.int 1)) (vCons (eC (.int 3)) vNil))) (vCons (eTup (vCons (eC (.int 0)) (vCons (eC (.int 3)) vNil))) vNil)))))))))))))
local macro_rules | `(tactic| walk_at "sx") => `(tactic| simp only [eFz, wRaise, wExprX, wRetX, wAsgX, eCallX, wTry, tryR, sufE, xCase_exn, isX_exn, eXIs, eXf_self, isX_none, isX_bool, isX_int, isX_str, isX_list, isX_tuple, xCase_none, xCase_bool, xCase_int, xCase_str, xCase_list, xCase_tuple, subX_self, subX_fe, subX_ve, wNever, wBreak, wCont, wExpr, wRet, wRetN, wNext, wAsg, gN, gsNil, gsCons, gT, gSet, wPar2, wPar3, wAug, wAugS, oV, oE, eC, eG, eV, eMv, e1, e2, eN, aNil, aCons, eAnd, eOr, eNot, tOf, tAnd, tOr, tNot, eIf, tTru, eCh, eCh3, wTopS, topT, fJoin, fRjust, strsOf, strsOf_map, eK, kV, kC, kIx, k1, k2, kLen, fIxK, eTup, eLst, eMth, fCnt, tyD, eN1J, eIxN, eAppJ, jNil, jCons, vNil, vCons, eIs, resP, resPs, on1, on2, fAdd, fSub, fMul, fDiv, fMod, fPow, fNeg, fEq, fNe, fCmp, fLt, fLe, fIs, fIsNot, fIsC, isBl, zip2, fIx, fLen, fAbs, fInt, fMin2, fMax2, fTuple, fList, fRevX, iRz, fKd, fDivN, fInts, fIntsA, gSorted, gSum, gMax, gMin, fStr, fAdd2, fMul2, fIn, intsOf, intsOf_map, Option.map_some, mkL_ints, isL, finT, fnE, List.map_cons, List.map_nil, List.cons_append, List.nil_append, List.replicate, List.getElem?_cons_zero, List.getElem?_cons_succ, List.getElem?_nil, List.set_cons_zero, List.set_cons_succ, List.length_cons, List.length_nil, List.length_set, Option.some.injEq, Prod.mk.injEq, PyData.int.injEq, PyData.list.injEq, PyData.bool.injEq, PyData.tuple.injEq, exists_eq_left', exists_eq_left, exists_eq', exists_and_left, exists_and_right, and_assoc, exists_const, and_true, true_and, ne_eq, not_false_eq_true, Nat.zero_add, Nat.reduceAdd, Nat.reduceLT, Int.cast_ofNat_Int, Int.reduceLT, Int.reduceLE, ↓reduceIte, reduceCtorEq, Bool.true_eq_false, Bool.false_eq_true, decide_eq_true_eq, noList, flatK, noLists, Bool.and_true, Bool.true_and, Bool.and_false, Bool.false_and, Bool.or_true, Bool.true_or, Bool.or_false, Bool.false_or, decide_false, decide_true, Bool.not_true, Bool.not_false, eqv_int, Bool.not_eq_true', beq_eq_false_iff_ne, beq_iff_eq, atI_0, ixN_0, atI_1, ixN_1, atI_2, ixN_2, atI_3, ixN_3, atI_4, ixN_4, atI_5, ixN_5, atI_6, ixN_6, atI_7, ixN_7, atI_8, ixN_8, atI_9, ixN_9, atI_m1, Int.reduceNeg, not_true_eq_false, false_or, or_true, true_or, Int.reduceToNat, depOk_ii, List.length_map, argT, isT_int_none, isT_int_bool, isT_int_int, isT_int_str, isT_int_list, isT_int_tuple, isT_bool_none, isT_bool_bool, isT_bool_int, isT_bool_str, isT_bool_list, isT_bool_tuple, isT_str_none, isT_str_bool, isT_str_int, isT_str_str, isT_str_list, isT_str_tuple, isT_list_none, isT_list_bool, isT_list_int, isT_list_str, isT_list_list, isT_list_tuple, isT_tuple_none, isT_tuple_bool, isT_tuple_int, isT_tuple_str, isT_tuple_list, isT_tuple_tuple, isT_int_dict, isT_bool_dict, isT_str_dict, isT_list_dict, isT_tuple_dict, isNone, clean, List.cons.injEq, Cap.val.injEq, Cap.slot.injEq, Int.reduceEq, Int.reduceNe, Nat.reduceLeDiff, true_imp_iff, fst_ints, clean_ints, fst_full, all_full, tTrue, eApp, fRngL, fGcd, mkA, fRevL, fBools, ← List.map_reverse, eSl, pSo, pNo, fSl, cutD_map, noLists_ints, noLists_app, Int.reduceAdd, Int.reduceSub, Int.reduceMul, sizeLine, compL, wipeT, backT, shO, dsp, cleans, mkL, noLists, List.all_cons, List.all_nil, forL, List.append_eq, List.any_cons, List.any_nil, iZipL, iSeq, iEnumL, iRevL, seqOf, iR1, iR2, iR3])
local macro_rules | `(tactic| walk_at "s1") => `(tactic| first
  | (with_reducible refine wSeq_k ?_; intro _ _)
  | (with_reducible refine wIf_k ?_; intro _ _ _ _; try walk_at "sx")
  | (with_reducible refine eCall_k ?_; intro _ _)
  | (with_reducible refine eCallIo_k ?_; intro _ _)
  | (with_reducible refine eCallJ_k ?_; intro _ _)
  | (with_reducible refine eCallOw_k ?_; intro _ _)
  | (refine k_eq (by assumption) ?_; try dsimp only)
  | (refine k_eq2 (by assumption) ?_; try dsimp only)
  | walk_at "sx")
local macro_rules | `(tactic| walk_at "go") => `(tactic| repeat walk_at "s1")
local macro_rules | `(tactic| walk_at "ok") => `(tactic| first | omega | exact inOk_i | exact ⟨by omega, by omega⟩ | exact divOk_of (by omega) (by omega) | exact mulOk_l (by omega) (by omega) | exact mulOk_r (by omega) (by omega) | exact mulOk_big (by omega) (by omega) (by omega) (by omega))
local macro_rules | `(tactic| walk_at "run") => `(tactic| repeat (first | walk_at "s1" | with_reducible refine wFor_k ?_ | with_reducible refine wForB_k ?_ | with_reducible refine eLc_k ?_ | with_reducible refine eLc2_k ?_ | (((with_reducible refine And.intro ?_ ?_); · walk_at "ok"); try dsimp only)))
local macro_rules | `(tactic| walk_at "rif") => `(tactic| repeat (first | walk_at "s1" | with_reducible refine wFor_k ?_ | with_reducible refine wForB_k ?_ | with_reducible refine eLc_k ?_ | with_reducible refine eLc2_k ?_ | (((with_reducible refine And.intro ?_ ?_); · walk_at "ok"); try dsimp only) | rw [if_neg (by omega)] | rw [if_pos (by omega)]))
local macro_rules | `(tactic| walk_at "fsok") => `(tactic| exact ⟨fun cs Q Q' k h => by { revert h; (try dsimp only); (repeat (first | (refine Exists.imp (fun _ => ?_)) | (refine And.imp_right ?_))); first | exact k _ _ | (intro h; intros; apply k; apply h <;> assumption) }, fun cs Q h => by { (try dsimp only at h); repeat (first | (exact (by rw [h.1]; rfl)) | obtain ⟨_, h⟩ := h) }⟩)
local macro_rules | `(tactic| walk_at "sxl") => `(tactic| simp only [eFz, wRaise, wExprX, wRetX, wAsgX, eCallX, wTry, tryR, sufE, xCase_exn, isX_exn, eXIs, eXf_self, isX_none, isX_bool, isX_int, isX_str, isX_list, isX_tuple, xCase_none, xCase_bool, xCase_int, xCase_str, xCase_list, xCase_tuple, subX_self, subX_fe, subX_ve, wNever, wBreak, wCont, wExpr, wRet, wRetN, wNext, wAsg, gN, gsNil, gsCons, gT, gSet, wPar2, wPar3, wAug, wAugS, oV, oE, eC, eG, eV, eMv, e1, e2, eN, aNil, aCons, eAnd, eOr, eNot, tOf, tAnd, tOr, tNot, eIf, tTru, eCh, eCh3, wTopS, topT, fJoin, fRjust, strsOf, strsOf_map, eK, kV, kC, kIx, k1, k2, kLen, fIxK, eTup, eLst, eMth, fCnt, tyD, eN1J, eIxN, eAppJ, jNil, jCons, vNil, vCons, eIs, resP, resPs, on1, on2, fAdd, fSub, fMul, fDiv, fMod, fPow, fNeg, fEq, fNe, fCmp, fLt, fLe, fIs, fIsNot, fIsC, isBl, zip2, fIx, fLen, fAbs, fInt, fMin2, fMax2, fTuple, fList, fRevX, iRz, fKd, fDivN, fInts, fIntsA, gSorted, gSum, gMax, gMin, fStr, fAdd2, fMul2, fIn, intsOf, intsOf_map, Option.map_some, mkL_ints, isL, finT, fnE, List.map_cons, List.map_nil, List.cons_append, List.nil_append, List.replicate, List.getElem?_cons_zero, List.getElem?_cons_succ, List.getElem?_nil, List.set_cons_zero, List.set_cons_succ, List.length_cons, List.length_nil, List.length_set, Option.some.injEq, Prod.mk.injEq, PyData.int.injEq, PyData.list.injEq, PyData.bool.injEq, PyData.tuple.injEq, exists_eq_left', exists_eq_left, exists_eq', exists_and_left, exists_and_right, and_assoc, exists_const, and_true, true_and, ne_eq, not_false_eq_true, Nat.zero_add, Nat.reduceAdd, Nat.reduceLT, Int.cast_ofNat_Int, Int.reduceLT, Int.reduceLE, ↓reduceIte, reduceCtorEq, Bool.true_eq_false, Bool.false_eq_true, decide_eq_true_eq, noList, flatK, noLists, Bool.and_true, Bool.true_and, Bool.and_false, Bool.false_and, Bool.or_true, Bool.true_or, Bool.or_false, Bool.false_or, decide_false, decide_true, Bool.not_true, Bool.not_false, eqv_int, Bool.not_eq_true', beq_eq_false_iff_ne, beq_iff_eq, atI_0, ixN_0, atI_1, ixN_1, atI_2, ixN_2, atI_3, ixN_3, atI_4, ixN_4, atI_5, ixN_5, atI_6, ixN_6, atI_7, ixN_7, atI_8, ixN_8, atI_9, ixN_9, atI_m1, Int.reduceNeg, not_true_eq_false, false_or, or_true, true_or, Int.reduceToNat, depOk_ii, List.length_map, argT, isT_int_none, isT_int_bool, isT_int_int, isT_int_str, isT_int_list, isT_int_tuple, isT_bool_none, isT_bool_bool, isT_bool_int, isT_bool_str, isT_bool_list, isT_bool_tuple, isT_str_none, isT_str_bool, isT_str_int, isT_str_str, isT_str_list, isT_str_tuple, isT_list_none, isT_list_bool, isT_list_int, isT_list_str, isT_list_list, isT_list_tuple, isT_tuple_none, isT_tuple_bool, isT_tuple_int, isT_tuple_str, isT_tuple_list, isT_tuple_tuple, isT_int_dict, isT_bool_dict, isT_str_dict, isT_list_dict, isT_tuple_dict, isNone, clean, List.cons.injEq, Cap.val.injEq, Cap.slot.injEq, Int.reduceEq, Int.reduceNe, Nat.reduceLeDiff, true_imp_iff, fst_ints, clean_ints, fst_full, all_full, tTrue, eApp, fRngL, fGcd, mkA, fRevL, fBools, ← List.map_reverse, eSl, pSo, pNo, fSl, cutD_map, noLists_ints, noLists_app, Int.reduceAdd, Int.reduceSub, Int.reduceMul, sizeLine, compL, wipeT, backT, shO, dsp, cleans, mkL, noLists, List.all_cons, List.all_nil, List.append_eq, List.any_cons, List.any_nil, iZipL, iSeq, iEnumL, iRevL, seqOf, iR1, iR2, iR3])
local macro_rules | `(tactic| walk_at "s1l") => `(tactic| first
  | (with_reducible refine wSeq_k ?_; intro _ _)
  | (with_reducible refine wIf_k ?_; intro _ _ _ _; try walk_at "sxl")
  | (with_reducible refine eCall_k ?_; intro _ _)
  | (with_reducible refine eCallIo_k ?_; intro _ _)
  | (with_reducible refine eCallJ_k ?_; intro _ _)
  | (with_reducible refine eCallOw_k ?_; intro _ _)
  | (refine k_eq (by assumption) ?_; try dsimp only)
  | (refine k_eq2 (by assumption) ?_; try dsimp only)
  | walk_at "sxl")
local macro_rules | `(tactic| walk_at "runl") => `(tactic| repeat (first | walk_at "s1l" | with_reducible refine wFor_k ?_ | with_reducible refine wForB_k ?_ | with_reducible refine eLc_k ?_ | with_reducible refine eLc2_k ?_ | (((with_reducible refine And.intro ?_ ?_); · walk_at "ok"); try dsimp only)))
local macro_rules | `(tactic| walk_at "rifl") => `(tactic| repeat (first | walk_at "s1l" | with_reducible refine wFor_k ?_ | with_reducible refine wForB_k ?_ | with_reducible refine eLc_k ?_ | with_reducible refine eLc2_k ?_ | (((with_reducible refine And.intro ?_ ?_); · walk_at "ok"); try dsimp only) | rw [if_neg (by omega)] | rw [if_pos (by omega)]))
/-! ### cuts of a polygon, as trees -/
inductive Tr where | lf | nd (l r : Tr)
def Tr.sz : Tr → Nat
  | .lf => 1
  | .nd l r => l.sz + r.sz
theorem Tr.pos : ∀ t : Tr, 0 < t.sz
  | .lf => Nat.one_pos
  | .nd l r => Nat.add_pos_left (Tr.pos l) _
abbrev Ch := Int × Int
def chs : Tr → Int → List Ch
  | .lf, _ => []
  | .nd l r, a => (a, a + l.sz + r.sz) :: (chs l a ++ chs r (a + l.sz))
def inr : Tr → Int → List Ch
  | .lf, _ => []
  | .nd l r, a => chs l a ++ chs r (a + l.sz)
def tris : Tr → Int → List (Int × Int × Int)
  | .lf, _ => []
  | .nd l r, a => (a, a + l.sz, a + l.sz + r.sz) :: (tris l a ++ tris r (a + l.sz))
/-- joined corners: neighbours and chords -/
def Jn : Tr → Int → Ch → Prop
  | .lf, a, c => c = (a, a + 1)
  | .nd l r, a, c => c = (a, a + l.sz + r.sz) ∨ Jn l a c ∨ Jn r (a + l.sz) c
theorem Jn_in : ∀ (t : Tr) (a : Int) (c : Ch), Jn t a c → a ≤ c.1 ∧ c.1 < c.2 ∧ c.2 ≤ a + t.sz
  | .lf, a, c, h => by
    have : c = (a, a + 1) := h
    subst this
    show a ≤ a ∧ a < a + 1 ∧ a + 1 ≤ a + ((1 : Nat) : Int)
    omega
  | .nd l r, a, c, h => by
    have l0 := l.pos
    have r0 := r.pos
    have e : (((Tr.nd l r).sz : Nat) : Int) = l.sz + r.sz := by show ((l.sz + r.sz : Nat) : Int) = _; omega
    rw [e]
    rcases h with h | h | h
    · subst h
      dsimp only
      omega
    · have := Jn_in l a c h
      omega
    · have := Jn_in r _ c h
      omega
theorem chs_in : ∀ (t : Tr) (a : Int) (c : Ch), c ∈ chs t a → a ≤ c.1 ∧ c.1 + 2 ≤ c.2 ∧ c.2 ≤ a + t.sz
  | .lf, a, c, h => nomatch h
  | .nd l r, a, c, h => by
    have l0 := l.pos
    have r0 := r.pos
    have e : (((Tr.nd l r).sz : Nat) : Int) = l.sz + r.sz := by show ((l.sz + r.sz : Nat) : Int) = _; omega
    rw [e]
    rw [chs, List.mem_cons, List.mem_append] at h
    rcases h with h | h | h
    · subst h
      dsimp only
      omega
    · have := chs_in l a c h
      omega
    · have := chs_in r _ c h
      omega
theorem Jn_iff : ∀ (t : Tr) (a : Int) (c : Ch), Jn t a c ↔ (a ≤ c.1 ∧ c.2 ≤ a + t.sz ∧ c.2 = c.1 + 1) ∨ c ∈ chs t a
  | .lf, a, (x, y) => by
    show (x, y) = (a, a + 1) ↔ (a ≤ x ∧ y ≤ a + ((1 : Nat) : Int) ∧ y = x + 1) ∨ (x, y) ∈ ([] : List Ch)
    rw [Prod.mk.injEq]
    simp only [List.not_mem_nil, or_false]
    omega
  | .nd l r, a, (x, y) => by
    have l0 := l.pos
    have r0 := r.pos
    have e : (((Tr.nd l r).sz : Nat) : Int) = l.sz + r.sz := by show ((l.sz + r.sz : Nat) : Int) = _; omega
    show (x, y) = (a, a + l.sz + r.sz) ∨ Jn l a (x, y) ∨ Jn r (a + l.sz) (x, y) ↔ _
    rw [Jn_iff l, Jn_iff r, e, chs, List.mem_cons, List.mem_append]
    dsimp only
    constructor
    · rintro (h | (h | h) | (h | h))
      · exact .inr (.inl h)
      · exact .inl (by omega)
      · exact .inr (.inr (.inl h))
      · exact .inl (by omega)
      · exact .inr (.inr (.inr h))
    · rintro (h | h | h | h)
      · by_cases g : y ≤ a + l.sz
        · exact .inr (.inl (.inl (by omega)))
        · exact .inr (.inr (.inl (by omega)))
      · exact .inl h
      · exact .inr (.inl (.inr h))
      · exact .inr (.inr (.inr h))
/-- three corners joined in pairs are a triangle -/
theorem tri_iff : ∀ (t : Tr) (a i j k : Int), (i, j, k) ∈ tris t a ↔ i < j ∧ j < k ∧ Jn t a (i, j) ∧ Jn t a (i, k) ∧ Jn t a (j, k)
  | .lf, a, i, j, k => by
    show (i, j, k) ∈ ([] : List (Int × Int × Int)) ↔ i < j ∧ j < k ∧ (i, j) = (a, a + 1) ∧ (i, k) = (a, a + 1) ∧ (j, k) = (a, a + 1)
    simp only [List.not_mem_nil, Prod.mk.injEq, false_iff]
    omega
  | .nd l r, a, i, j, k => by
    have l0 := l.pos
    have r0 := r.pos
    have jl := Jn_in l a
    have jr := Jn_in r (a + l.sz)
    show (i, j, k) ∈ (a, a + l.sz, a + l.sz + r.sz) :: (tris l a ++ tris r (a + l.sz)) ↔ i < j ∧ j < k ∧ ((i, j) = (a, a + (l.sz : Int) + r.sz) ∨ Jn l a (i, j) ∨ Jn r (a + l.sz) (i, j)) ∧ ((i, k) = (a, a + (l.sz : Int) + r.sz) ∨ Jn l a (i, k) ∨ Jn r (a + l.sz) (i, k)) ∧ ((j, k) = (a, a + (l.sz : Int) + r.sz) ∨ Jn l a (j, k) ∨ Jn r (a + l.sz) (j, k))
    rw [List.mem_cons, List.mem_append, tri_iff l, tri_iff r]
    have own : ∀ (t : Tr) (b : Int), Jn t b (b, b + t.sz) := by
      intro t b
      cases t with
      | lf => rfl
      | nd l r => exact .inl (by rw [Int.add_assoc]; rfl)
    simp only [Prod.mk.injEq]
    constructor
    · rintro (⟨rfl, rfl, rfl⟩ | ⟨h1, h2, h3, h4, h5⟩ | ⟨h1, h2, h3, h4, h5⟩)
      · exact ⟨by omega, by omega, .inr (.inl (own l _)), .inl ⟨rfl, rfl⟩, .inr (.inr (own r _))⟩
      · exact ⟨h1, h2, .inr (.inl h3), .inr (.inl h4), .inr (.inl h5)⟩
      · exact ⟨h1, h2, .inr (.inr h3), .inr (.inr h4), .inr (.inr h5)⟩
    · rintro ⟨h1, h2, h3, h4, h5⟩
      have a1 : Jn l a (i, j) → a ≤ i ∧ j ≤ a + l.sz := fun h => by have := jl _ h; dsimp only at this; omega
      have a2 : Jn l a (i, k) → a ≤ i ∧ k ≤ a + l.sz := fun h => by have := jl _ h; dsimp only at this; omega
      have a3 : Jn l a (j, k) → a ≤ j ∧ k ≤ a + l.sz := fun h => by have := jl _ h; dsimp only at this; omega
      have b1 : Jn r (a + l.sz) (i, j) → a + l.sz ≤ i ∧ j ≤ a + l.sz + r.sz := fun h => by have := jr _ h; dsimp only at this; omega
      have b2 : Jn r (a + l.sz) (i, k) → a + l.sz ≤ i ∧ k ≤ a + l.sz + r.sz := fun h => by have := jr _ h; dsimp only at this; omega
      have b3 : Jn r (a + l.sz) (j, k) → a + l.sz ≤ j ∧ k ≤ a + l.sz + r.sz := fun h => by have := jr _ h; dsimp only at this; omega
      rcases h4 with h4 | h4 | h4
      · rcases h3 with h3 | h3 | h3
        · omega
        · rcases h5 with h5 | h5 | h5
          · omega
          · have := a3 h5; omega
          · have := a1 h3; have := b3 h5; exact .inl (by omega)
        · have := b1 h3; omega
      · have g4 := a2 h4
        rcases h3 with h3 | h3 | h3
        · omega
        · rcases h5 with h5 | h5 | h5
          · omega
          · exact .inr (.inl ⟨h1, h2, h3, h4, h5⟩)
          · have := b3 h5; omega
        · have := b1 h3; omega
      · have g4 := b2 h4
        rcases h3 with h3 | h3 | h3
        · omega
        · have := a1 h3; omega
        · rcases h5 with h5 | h5 | h5
          · omega
          · have := a3 h5; omega
          · exact .inr (.inr ⟨h1, h2, h3, h4, h5⟩)

/-! ### how many triangles lie at a corner -/
def cn : Tr → Int → Int → Nat
  | .lf, _, _ => 0
  | .nd l r, a, k => (if k = a ∨ k = a + l.sz ∨ k = a + l.sz + r.sz then 1 else 0) + cn l a k + cn r (a + l.sz) k
def hasC (k : Int) (c : Ch) : Bool := decide (k = c.1 ∨ k = c.2)
def hasT (k : Int) (c : Int × Int × Int) : Bool := decide (k = c.1 ∨ k = c.2.1 ∨ k = c.2.2)
theorem cn_tris : ∀ (t : Tr) (a k : Int), cn t a k = (tris t a).countP (hasT k)
  | .lf, _, _ => rfl
  | .nd l r, a, k => by
    rw [cn, tris, List.countP_cons, List.countP_append, cn_tris l, cn_tris r]
    unfold hasT
    simp only [decide_eq_true_eq]
    omega
theorem cn_out : ∀ (t : Tr) (a k : Int), k < a ∨ a + t.sz < k → cn t a k = 0
  | .lf, _, _, _ => rfl
  | .nd l r, a, k, h => by
    have l0 := l.pos
    have r0 := r.pos
    have e : (((Tr.nd l r).sz : Nat) : Int) = l.sz + r.sz := by show ((l.sz + r.sz : Nat) : Int) = _; omega
    rw [e] at h
    rw [cn, cn_out l a k (by omega), cn_out r _ k (by omega), if_neg (by omega)]
theorem chs_out (t : Tr) (a k : Int) (h : k < a ∨ a + t.sz < k) : (chs t a).countP (hasC k) = 0 := by
  rw [List.countP_eq_zero]
  intro c hc
  have := chs_in t a c hc
  unfold hasC
  simp only [decide_eq_true_eq]
  omega
theorem chs_inr (t : Tr) (a k : Int) : (chs t a).countP (hasC k) = (inr t a).countP (hasC k) + (match t with | .lf => 0 | .nd l r => if k = a ∨ k = a + l.sz + r.sz then 1 else 0) := by
  cases t with
  | lf => rfl
  | nd l r =>
    rw [chs, inr, List.countP_cons]
    unfold hasC
    simp only [decide_eq_true_eq]
theorem cn_chs : ∀ (t : Tr) (a k : Int), a ≤ k → k ≤ a + t.sz → cn t a k = (if k = a ∨ k = a + t.sz then (chs t a).countP (hasC k) else 1 + (inr t a).countP (hasC k))
  | .lf, a, k, h1, h2 => by
    have e : ((Tr.lf.sz : Nat) : Int) = 1 := rfl
    rw [e] at h2 ⊢
    rw [if_pos (by omega)]
    rfl
  | .nd l r, a, k, h1, h2 => by
    have l0 := l.pos
    have r0 := r.pos
    have e : (((Tr.nd l r).sz : Nat) : Int) = l.sz + r.sz := by show ((l.sz + r.sz : Nat) : Int) = _; omega
    have il := chs_inr l a k
    have ir := chs_inr r (a + l.sz) k
    rw [e] at h2 ⊢
    rw [cn, chs_inr, inr, List.countP_append]
    dsimp only
    rcases Int.lt_trichotomy k (a + l.sz) with g | g | g
    · have c1 := cn_chs l a k h1 (by omega)
      rw [cn_out r _ k (by omega), chs_out r _ k (by omega), c1]
      by_cases h : k = a
      · rw [if_pos (by omega), if_pos (by omega), if_pos (by omega), if_pos (by omega)]; omega
      · rw [if_neg (by omega), if_neg (by omega), if_neg (by omega), il]
        cases l with
        | lf =>
          have : ((Tr.lf.sz : Nat) : Int) = 1 := rfl
          omega
        | nd l1 l2 =>
          have e : (((Tr.nd l1 l2).sz : Nat) : Int) = l1.sz + l2.sz := by show ((l1.sz + l2.sz : Nat) : Int) = _; omega
          dsimp only
          rw [if_neg (by omega)]
          omega
    · have c1 := cn_chs l a k h1 (by omega)
      have c2 := cn_chs r (a + l.sz) k (by omega) (by omega)
      rw [c1, c2, if_pos (by omega), if_pos (by omega), if_pos (by omega), if_neg (by omega)]
      omega
    · have c2 := cn_chs r (a + l.sz) k (by omega) (by omega)
      rw [cn_out l _ k (by omega), chs_out l _ k (by omega), c2]
      by_cases h : k = a + l.sz + r.sz
      · rw [if_pos (by omega), if_pos (by omega), if_pos (by omega), if_pos (by omega)]; omega
      · rw [if_neg (by omega), if_neg (by omega), if_neg (by omega), ir]
        cases r with
        | lf =>
          have : ((Tr.lf.sz : Nat) : Int) = 1 := rfl
          omega
        | nd l1 l2 =>
          have e : (((Tr.nd l1 l2).sz : Nat) : Int) = l1.sz + l2.sz := by show ((l1.sz + l2.sz : Nat) : Int) = _; omega
          dsimp only
          rw [if_neg (by omega)]
          omega
/-- in a polygon cut along its inner chords: one triangle more than cuts -/
theorem cn_inr {l r : Tr} {k : Int} (h1 : 0 ≤ k) (h2 : k ≤ l.sz + r.sz) : cn (.nd l r) 0 k = 1 + (inr (.nd l r) 0).countP (hasC k) := by
  have e : (((Tr.nd l r).sz : Nat) : Int) = l.sz + r.sz := by show ((l.sz + r.sz : Nat) : Int) = _; omega
  rw [cn_chs _ 0 k h1 (by rw [e]; omega), chs_inr, e]
  dsimp only
  split
  · rw [if_pos (by omega)]; omega
  · rfl
/-! ### corners as pairs of numbers: each triangle's middle one is the sum of the outer ones -/
abbrev Vc := Int × Int
def va (x y : Vc) : Vc := (x.1 + y.1, x.2 + y.2)
def vm (c : Int) (x : Vc) : Vc := (c * x.1, c * x.2)
def vec : Tr → Int → Vc → Vc → Int → Vc
  | .lf, a, x, y, k => if k = a then x else y
  | .nd l r, a, x, y, k => if k ≤ a + l.sz then vec l a x (va x y) k else vec r (a + l.sz) (va x y) y k
theorem vec_0 : ∀ (t : Tr) (a : Int) (x y : Vc), vec t a x y a = x
  | .lf, a, x, y => if_pos rfl
  | .nd l r, a, x, y => by rw [vec, if_pos (by omega), vec_0 l]
theorem vec_1 : ∀ (t : Tr) (a : Int) (x y : Vc), vec t a x y (a + t.sz) = y
  | .lf, a, x, y => if_neg (by show ¬ a + ((1 : Nat) : Int) = a; omega)
  | .nd l r, a, x, y => by
    have r0 := r.pos
    have e : (((Tr.nd l r).sz : Nat) : Int) = l.sz + r.sz := by show ((l.sz + r.sz : Nat) : Int) = _; omega
    rw [vec, e, if_neg (by omega), ← Int.add_assoc, vec_1 r]
theorem vec_l {l r : Tr} {a : Int} {x y : Vc} {k : Int} (h : k ≤ a + l.sz) : vec (.nd l r) a x y k = vec l a x (va x y) k := by rw [vec, if_pos h]
theorem vec_r {l r : Tr} {a : Int} {x y : Vc} {k : Int} (h : a + l.sz ≤ k) : vec (.nd l r) a x y k = vec r (a + l.sz) (va x y) y k := by
  rw [vec]
  split
  · rw [show k = a + l.sz by omega, vec_1, vec_0]
  · rfl
theorem vec_b : ∀ (t : Tr) (a : Int) (x y : Vc), vec t a x y (a + 1) = va y (vm (cn t a a) x)
  | .lf, a, x, y => by
    rw [vec, if_neg (by omega)]
    unfold va vm cn
    ext <;> simp
  | .nd l r, a, x, y => by
    have l0 := l.pos
    rw [vec_l (by omega), vec_b l, cn, if_pos (.inl rfl), cn_out r _ a (by omega)]
    unfold va vm
    ext <;> dsimp only <;> grind
theorem vec_e : ∀ (t : Tr) (a : Int) (x y : Vc), vec t a x y (a + t.sz - 1) = va x (vm (cn t a (a + t.sz)) y)
  | .lf, a, x, y => by
    have : ((Tr.lf.sz : Nat) : Int) = 1 := rfl
    rw [this, vec, if_pos (by omega)]
    unfold va vm cn
    ext <;> simp
  | .nd l r, a, x, y => by
    have l0 := l.pos
    have r0 := r.pos
    have e : (((Tr.nd l r).sz : Nat) : Int) = l.sz + r.sz := by show ((l.sz + r.sz : Nat) : Int) = _; omega
    have h := vec_e r (a + l.sz) (va x y) y
    rw [e, vec_r (by omega), cn, if_pos (by omega), cn_out l _ _ (by omega), show a + (l.sz + r.sz : Int) - 1 = a + l.sz + r.sz - 1 by omega, h, show a + (l.sz + r.sz : Int) = a + l.sz + r.sz by omega]
    unfold va vm
    ext <;> dsimp only <;> grind
theorem vec_i : ∀ (t : Tr) (a : Int) (x y : Vc) (k : Int), a < k → k < a + t.sz → va (vec t a x y (k - 1)) (vec t a x y (k + 1)) = vm (cn t a k) (vec t a x y k)
  | .lf, a, x, y, k, h1, h2 => by
    have : ((Tr.lf.sz : Nat) : Int) = 1 := rfl
    omega
  | .nd l r, a, x, y, k, h1, h2 => by
    have l0 := l.pos
    have r0 := r.pos
    have e : (((Tr.nd l r).sz : Nat) : Int) = l.sz + r.sz := by show ((l.sz + r.sz : Nat) : Int) = _; omega
    rw [e] at h2
    rcases Int.lt_trichotomy k (a + l.sz) with g | g | g
    · rw [vec_l (by omega), vec_l (by omega), vec_l (by omega), cn, if_neg (by omega), cn_out r _ k (by omega), vec_i l a _ _ k h1 g]
      simp
    · subst g
      rw [vec_l (by omega), vec_r (by omega), vec_l (by omega), vec_1, vec_e, vec_b, cn, if_pos (by omega)]
      unfold va vm
      ext <;> dsimp only <;> grind
    · rw [vec_r (by omega), vec_r (by omega), vec_r (by omega), cn, if_neg (by omega), cn_out l _ k (by omega), vec_i r _ _ _ k g (by omega)]
      simp
def dt (x y : Vc) : Int := x.1 * y.2 - x.2 * y.1
theorem vec_co : ∀ (t : Tr) (a : Int) (x y : Vc) (k : Int), a ≤ k → k ≤ a + t.sz → ∃ p q : Int, 0 ≤ p ∧ 0 ≤ q ∧ (k < a + t.sz → 0 < p) ∧ (a < k → 0 < q) ∧ vec t a x y k = va (vm p x) (vm q y)
  | .lf, a, x, y, k, h1, h2 => by
    have : ((Tr.lf.sz : Nat) : Int) = 1 := rfl
    rw [this] at h2 ⊢
    rw [vec]
    split
    · exact ⟨1, 0, by decide, by decide, fun _ => by decide, fun h => by omega, by unfold va vm; ext <;> simp⟩
    · exact ⟨0, 1, by decide, by decide, fun h => by omega, fun h => by decide, by unfold va vm; ext <;> simp⟩
  | .nd l r, a, x, y, k, h1, h2 => by
    have l0 := l.pos
    have r0 := r.pos
    have e : (((Tr.nd l r).sz : Nat) : Int) = l.sz + r.sz := by show ((l.sz + r.sz : Nat) : Int) = _; omega
    rw [e] at h2 ⊢
    rcases Int.lt_or_le (a + l.sz) k with g | g
    · obtain ⟨p, q, p0, q0, p1, q1, hv⟩ := vec_co r (a + l.sz) (va x y) y k (by omega) (by omega)
      rw [vec_r (by omega), hv]
      refine ⟨p, p + q, p0, by omega, fun h => p1 (by omega), fun h => by have := q1 g; omega, ?_⟩
      unfold va vm
      ext <;> dsimp only <;> grind
    · obtain ⟨p, q, p0, q0, p1, q1, hv⟩ := vec_co l a x (va x y) k h1 g
      rw [vec_l g, hv]
      refine ⟨p + q, q, by omega, q0, fun h => ?_, fun h => q1 h, ?_⟩
      · rcases Int.lt_or_le k (a + l.sz) with g2 | g2
        · have := p1 g2; omega
        · have := q1 (by omega); omega
      · unfold va vm
        ext <;> dsimp only <;> grind
theorem dt_co (x y : Vc) (p q s t : Int) : dt (va (vm p x) (vm q y)) (va (vm s x) (vm t y)) = (p * t - q * s) * dt x y := by
  unfold dt va vm
  dsimp only
  grind
theorem vec_dt : ∀ (t : Tr) (a : Int) (x y : Vc) (i j : Int), dt x y = 1 → a ≤ i → i < j → j ≤ a + t.sz → 0 < dt (vec t a x y i) (vec t a x y j) ∧ (j = i + 1 → dt (vec t a x y i) (vec t a x y j) = 1)
  | .lf, a, x, y, i, j, h, h1, h2, h3 => by
    have : ((Tr.lf.sz : Nat) : Int) = 1 := rfl
    rw [this] at h3
    rw [show i = a by omega, show j = a + 1 by omega, vec_0, show vec .lf a x y (a + 1) = y from vec_1 .lf a x y, h]
    exact ⟨by decide, fun _ => rfl⟩
  | .nd l r, a, x, y, i, j, h, h1, h2, h3 => by
    have l0 := l.pos
    have r0 := r.pos
    have e : (((Tr.nd l r).sz : Nat) : Int) = l.sz + r.sz := by show ((l.sz + r.sz : Nat) : Int) = _; omega
    rw [e] at h3
    have d1 : dt x (va x y) = 1 := by rw [← h]; unfold dt va; dsimp only; grind
    have d2 : dt (va x y) y = 1 := by rw [← h]; unfold dt va; dsimp only; grind
    rcases Int.lt_or_le (a + l.sz) j with g | g
    · rcases Int.lt_or_le i (a + l.sz) with g2 | g2
      · obtain ⟨p, q, p0, q0, p1, q1, hv⟩ := vec_co l a x (va x y) i h1 (by omega)
        obtain ⟨s, t, s0, t0, s1, t1, hw⟩ := vec_co r (a + l.sz) (va x y) y j (by omega) (by omega)
        have p2 := p1 g2
        have t2 := t1 g
        rw [vec_l (by omega), vec_r (by omega), hv, hw]
        have e1 : dt (va (vm p x) (vm q (va x y))) (va (vm s (va x y)) (vm t y)) = (p * s + p * t + q * t) * dt x y := by
          unfold dt va vm
          dsimp only
          grind
        rw [e1, h]
        have k1 : 0 < p * t := Int.mul_pos p2 t2
        have k2 := Int.mul_nonneg p0 s0
        have k3 := Int.mul_nonneg q0 t0
        exact ⟨by omega, fun hj => by omega⟩
      · rw [vec_r g2, vec_r (by omega)]
        exact vec_dt r _ _ _ i j d2 g2 h2 (by omega)
    · rw [vec_l (by omega), vec_l g]
      exact vec_dt l _ _ _ i j d1 h1 h2 g

/-! ### rows of a ring -/
def rg (r : List Int) (j : Int) : Int := (r[(j % r.length).toNat]?).getD 0
def R (r : List Int) (i : Int) : Nat → Int
  | 0 => 0
  | 1 => 1
  | d + 2 => rg r (i + (d + 2 : Nat) - 1) * R r i (d + 1) - R r i d
theorem rg_at {r : List Int} {j : Int} (h : 0 < r.length) : atI (r.map PyData.int) (j % r.length) = some (.int (rg r j)) := by
  have h1 := Int.emod_nonneg j (show (r.length : Int) ≠ 0 by omega)
  have h2 := Int.emod_lt_of_pos j (show (0 : Int) < r.length by omega)
  rw [atI_of h1, List.getElem?_map]
  unfold rg
  rw [List.getElem?_eq_getElem (show (j % r.length).toNat < r.length by omega)]
  rfl
theorem rg_mem {r : List Int} {j : Int} (h : 0 < r.length) : rg r j ∈ r := by
  have h1 := Int.emod_nonneg j (show (r.length : Int) ≠ 0 by omega)
  have h2 := Int.emod_lt_of_pos j (show (0 : Int) < r.length by omega)
  unfold rg
  rw [List.getElem?_eq_getElem (show (j % r.length).toNat < r.length by omega)]
  exact List.getElem_mem _
def nf (r : List Int) (i : Int) (n : Nat) : List Int := (List.range n).map (R r i)
theorem nf_succ (r : List Int) (i : Int) (n : Nat) : nf r i (n + 1) = nf r i n ++ [R r i n] := by unfold nf; rw [List.range_succ, List.map_append]; rfl
theorem nf_len (r : List Int) (i : Int) (n : Nat) : (nf r i n).length = n := by unfold nf; rw [List.length_map, List.length_range]
theorem nf_at (r : List Int) (i : Int) {n k : Nat} (h : k < n) : (nf r i n)[k]? = some (R r i k) := by unfold nf; rw [List.getElem?_map, List.getElem?_range h]; rfl

/-! ### when rows close -/
theorem rg_at0 {r : List Int} {j : Int} (h0 : 0 ≤ j) (h1 : j < r.length) : rg r j = r.getD j.toNat 0 := by
  unfold rg
  rw [Int.emod_eq_of_lt h0 h1, List.getD_eq_getElem?_getD]
theorem rg_add (r : List Int) (j : Int) : rg r (j + r.length) = rg r j := by
  unfold rg
  rw [Int.add_emod_right]
theorem R_add (r : List Int) (i : Int) : ∀ d : Nat, R r (i + r.length) d = R r i d
  | 0 => rfl
  | 1 => rfl
  | d + 2 => by
    rw [R, R, R_add r i (d + 1), R_add r i d, show i + r.length + ((d + 2 : Nat) : Int) - 1 = i + ((d + 2 : Nat) : Int) - 1 + r.length by omega, rg_add]
/-- a ring begun elsewhere -/
theorem rot_rg {r : List Int} {k : Nat} (h : k ≤ r.length) (j : Int) (h0 : 0 < r.length) : rg (r.drop k ++ r.take k) j = rg r (j + k) := by
  have hl : (r.drop k ++ r.take k).length = r.length := by rw [List.length_append, List.length_drop, List.length_take]; omega
  unfold rg
  rw [hl]
  have m0 := Int.emod_nonneg j (show (r.length : Int) ≠ 0 by omega)
  have m1 := Int.emod_lt_of_pos j (show (0 : Int) < r.length by omega)
  have e : (j + k) % (r.length : Int) = (j % r.length + k) % r.length := by rw [Int.emod_add_emod]
  rw [e]
  generalize j % (r.length : Int) = m at m0 m1 ⊢
  rcases Int.lt_or_le (m + k) r.length with g | g
  · rw [Int.emod_eq_of_lt (by omega) g, List.getElem?_append_left (by rw [List.length_drop]; omega), List.getElem?_drop]
    congr 2
    omega
  · have e2 : (m + k) % (r.length : Int) = m + k - r.length := by
      rw [← Int.sub_emod_right, Int.emod_eq_of_lt (by omega) (by omega)]
    rw [e2, List.getElem?_append_right (by rw [List.length_drop]; omega), List.length_drop, List.getElem?_take, if_pos (by omega)]
    congr 2
    omega
theorem rot_R {r : List Int} {k : Nat} (h : k ≤ r.length) (i : Int) (h0 : 0 < r.length) : ∀ d : Nat, R (r.drop k ++ r.take k) i d = R r (i + k) d
  | 0 => rfl
  | 1 => rfl
  | d + 2 => by rw [R, R, rot_R h i h0 (d + 1), rot_R h i h0 d, rot_rg h _ h0, show i + ((d + 2 : Nat) : Int) - 1 + k = i + k + ((d + 2 : Nat) : Int) - 1 by omega]

/-- the rows are told by vectors -/
theorem R_vec {r : List Int} {i : Int} {u : Int → Vc} (m : Nat) (h1 : dt (u i) (u (i + 1)) = 1) (h : ∀ d : Nat, d + 2 ≤ m → va (u (i + d)) (u (i + (d + 2 : Nat))) = vm (rg r (i + (d + 2 : Nat) - 1)) (u (i + (d + 1 : Nat)))) : ∀ d : Nat, d ≤ m → R r i d = dt (u i) (u (i + d))
  | 0, _ => by
    show (0 : Int) = _
    rw [show i + ((0 : Nat) : Int) = i by omega]
    unfold dt
    grind
  | 1, _ => h1.symm
  | d + 2, hd => by
    have a1 := R_vec m h1 h (d + 1) (by omega)
    have a2 := R_vec m h1 h d (by omega)
    have a3 := h d hd
    rw [R, a1, a2]
    have e1 := congrArg Prod.fst a3
    have e2 := congrArg Prod.snd a3
    unfold va vm at e1 e2
    dsimp only at e1 e2
    unfold dt
    have g1 : (u (i + (d + 2 : Nat))).1 = rg r (i + (d + 2 : Nat) - 1) * (u (i + (d + 1 : Nat))).1 - (u (i + d)).1 := by omega
    have g2 : (u (i + (d + 2 : Nat))).2 = rg r (i + (d + 2 : Nat) - 1) * (u (i + (d + 1 : Nat))).2 - (u (i + d)).2 := by omega
    rw [g1, g2]
    grind
/-- all rows up to one line above 0, then 1s, then 0s -/
def Shut (r : List Int) : Prop := ∀ i : Int, 0 ≤ i → i < r.length → (∀ d : Nat, 1 ≤ d → d < r.length → 0 < R r i d) ∧ R r i (r.length - 1) = 1 ∧ R r i r.length = 0
/-- the counts of a polygon's triangles -/
def cnts (t : Tr) : List Int := (List.range (t.sz + 1)).map fun k : Nat => ((cn t 0 (k : Int) : Nat) : Int)
theorem cnts_len (t : Tr) : (cnts t).length = t.sz + 1 := by unfold cnts; rw [List.length_map, List.length_range]
theorem cnts_rg {t : Tr} {k : Int} (h0 : 0 ≤ k) (h1 : k ≤ t.sz) : rg (cnts t) k = cn t 0 k := by
  rw [rg_at0 h0 (by rw [cnts_len]; omega)]
  unfold cnts
  rw [List.getD_eq_getElem?_getD, List.getElem?_map, List.getElem?_range (by omega)]
  show ((cn t 0 (k.toNat : Nat) : Nat) : Int) = _
  rw [show ((k.toNat : Nat) : Int) = k by omega]
def uu (t : Tr) (k : Int) : Vc := if k ≤ t.sz then vec t 0 (1, 0) (0, 1) k else vm (-1) (vec t 0 (1, 0) (0, 1) (k - (t.sz + 1)))
theorem uu_lo {t : Tr} {k : Int} (h : k ≤ t.sz) : uu t k = vec t 0 (1, 0) (0, 1) k := if_pos h
theorem uu_hi {t : Tr} {k : Int} (h : t.sz < k) : uu t k = vm (-1) (vec t 0 (1, 0) (0, 1) (k - (t.sz + 1))) := if_neg (by omega)
theorem vm_va (c : Int) (x y : Vc) : va (vm c x) (vm c y) = vm c (va x y) := by unfold va vm; ext <;> dsimp only <;> grind
theorem vm_vm (c d : Int) (x : Vc) : vm c (vm d x) = vm d (vm c x) := by unfold vm; ext <;> dsimp only <;> grind
theorem uu_step {t : Tr} {k : Int} (h1 : 0 < k) (h2 : k ≤ 2 * t.sz) : va (uu t (k - 1)) (uu t (k + 1)) = vm (rg (cnts t) k) (uu t k) := by
  have t0 := t.pos
  have v0 := vec_0 t 0 (1, 0) (0, 1)
  have v1 := vec_1 t 0 (1, 0) (0, 1)
  rw [Int.zero_add] at v1
  rcases Int.lt_trichotomy k t.sz with g | g | g
  · rw [uu_lo (by omega), uu_lo (by omega), uu_lo (by omega), vec_i t 0 _ _ k h1 (by omega), cnts_rg (by omega) (by omega)]
  · subst g
    have := vec_e t 0 (1, 0) (0, 1)
    rw [Int.zero_add] at this
    rw [uu_lo (by omega), uu_hi (by omega), uu_lo (by omega), this, v1, show (t.sz : Int) + 1 - (t.sz + 1) = 0 by omega, v0, cnts_rg (by omega) (by omega)]
    unfold va vm
    ext <;> simp
  · rcases Int.lt_or_le (t.sz + 1) k with g2 | g2
    · rw [uu_hi (by omega), uu_hi (by omega), uu_hi g, vm_va]
      have := vec_i t 0 (1, 0) (0, 1) (k - (t.sz + 1)) (by omega) (by omega)
      rw [show k - 1 - (t.sz + 1 : Int) = k - (t.sz + 1) - 1 by omega, show k + 1 - (t.sz + 1 : Int) = k - (t.sz + 1) + 1 by omega, this, vm_vm]
      congr 1
      have e := rg_add (cnts t) (k - (t.sz + 1))
      rw [cnts_len, show k - (t.sz + 1) + ((t.sz + 1 : Nat) : Int) = k by omega] at e
      rw [e, cnts_rg (by omega) (by omega)]
    · have e : k = (t.sz : Int) + 1 := by omega
      have e2 := rg_add (cnts t) 0
      rw [cnts_len, show (0 : Int) + ((t.sz + 1 : Nat) : Int) = k by omega] at e2
      have e3 : rg (cnts t) 0 = cn t 0 0 := cnts_rg (by omega) (by omega)
      have := vec_b t 0 (1, 0) (0, 1)
      rw [uu_lo (by omega), uu_hi (by omega), uu_hi g, e2, e3, e, show (t.sz : Int) + 1 - 1 = t.sz by omega, v1, show (t.sz : Int) + 1 + 1 - (t.sz + 1) = 0 + 1 by omega, this, show (t.sz : Int) + 1 - (t.sz + 1) = 0 by omega, v0]
      unfold va vm
      ext <;> simp
theorem dt_neg (x y : Vc) : dt x (vm (-1) y) = dt y x := by unfold dt vm; dsimp only; grind
theorem dt_self (x : Vc) : dt x x = 0 := by unfold dt; grind
theorem uu_dt {t : Tr} {i j : Int} (h0 : 0 ≤ i) (h1 : i ≤ t.sz) (h2 : i < j) (h3 : j ≤ i + t.sz) : 0 < dt (uu t i) (uu t j) ∧ (j = i + 1 → dt (uu t i) (uu t j) = 1) ∧ (j = i + t.sz → dt (uu t i) (uu t j) = 1) := by
  have hd : dt ((1, 0) : Vc) (0, 1) = 1 := by decide
  have v0 := vec_0 t 0 (1, 0) (0, 1)
  have v1 := vec_1 t 0 (1, 0) (0, 1)
  rw [Int.zero_add] at v1
  have t0 := t.pos
  rw [uu_lo h1]
  rcases Int.lt_or_le t.sz j with g | g
  · rw [uu_hi g, dt_neg]
    have := vec_dt t 0 (1, 0) (0, 1) (j - (t.sz + 1)) i hd (by omega) (by omega) (by omega)
    refine ⟨this.1, fun e => ?_, fun e => this.2 (by omega)⟩
    rw [show j - (t.sz + 1 : Int) = 0 by omega, v0, show i = (t.sz : Int) by omega, v1, hd]
  · rw [uu_lo g]
    have := vec_dt t 0 (1, 0) (0, 1) i j hd h0 h2 (by omega)
    refine ⟨this.1, this.2, fun e => ?_⟩
    rw [show i = 0 by omega, v0, show j = (t.sz : Int) by omega, v1, hd]
theorem cnts_R {t : Tr} {i : Int} (h0 : 0 ≤ i) (h1 : i ≤ t.sz) : ∀ d : Nat, d ≤ t.sz + 1 → R (cnts t) i d = dt (uu t i) (uu t (i + d)) := by
  have t0 := t.pos
  refine R_vec _ ((uu_dt h0 h1 (show i < i + 1 by omega) (by omega)).2.1 rfl) fun d hd => ?_
  have := uu_step (t := t) (k := i + (d + 1 : Nat)) (by omega) (by omega)
  rw [show i + ((d + 1 : Nat) : Int) - 1 = i + d by omega, show i + ((d + 1 : Nat) : Int) + 1 = i + (d + 2 : Nat) by omega] at this
  rw [this, show i + ((d + 2 : Nat) : Int) - 1 = i + (d + 1 : Nat) by omega]
theorem cnts_shut (t : Tr) : Shut (cnts t) := by
  have t0 := t.pos
  intro i h0 h1
  rw [cnts_len] at h1 ⊢
  have hR := cnts_R (t := t) h0 (by omega)
  refine ⟨fun d d1 d2 => ?_, ?_, ?_⟩
  · rw [hR d (by omega)]
    exact (uu_dt h0 (by omega) (by omega) (by omega)).1
  · rw [show t.sz + 1 - 1 = t.sz by omega, hR t.sz (by omega)]
    exact (uu_dt h0 (by omega) (by omega) (by omega)).2.2 rfl
  · rw [hR _ (Nat.le_refl _), uu_lo (by omega), uu_hi (by omega), dt_neg, show i + ((t.sz + 1 : Nat) : Int) - (t.sz + 1) = i by omega, dt_self]
theorem rot_shut {r : List Int} {k : Nat} (h : k ≤ r.length) (h0 : 0 < r.length) (hs : Shut r) : Shut (r.drop k ++ r.take k) := by
  intro i i0 i1
  have hl : (r.drop k ++ r.take k).length = r.length := by rw [List.length_append, List.length_drop, List.length_take]; omega
  rw [hl] at i1 ⊢
  simp only [rot_R h i h0]
  rcases Int.lt_or_le (i + k) r.length with g | g
  · exact hs (i + k) (by omega) g
  · have := hs (i + k - r.length) (by omega) (by omega)
    have e : ∀ d, R r (i + k) d = R r (i + k - r.length) d := fun d => by
      have := R_add r (i + k - r.length) d
      rw [show i + k - (r.length : Int) + r.length = i + k by omega] at this
      exact this
    simp only [e]
    exact this

/-! ### cutting a polygon part by part, with a heap of parts -/
def cr (p : Ch) : List Int := [p.1, p.2]
def prc (p : Ch) : PyData := .tuple [.int p.1, .int p.2]
theorem prc_is (p : Ch) : prc p = tupI (cr p) := rfl
inductive Fits : List Ch → List Tr → Prop
  | nil : Fits [] []
  | cons {p : Ch} {t : Tr} {ps : List Ch} {ts : List Tr} : p.1 + t.sz = p.2 → Fits ps ts → Fits (p :: ps) (t :: ts)
def fill : List Ch → List Tr → List Ch
  | p :: ps, t :: ts => inr t p.1 ++ fill ps ts
  | _, _ => []
theorem fill_nil : fill [] [] = [] := rfl
theorem fill_cons (p : Ch) (t : Tr) (ps : List Ch) (ts : List Tr) : fill (p :: ps) (t :: ts) = inr t p.1 ++ fill ps ts := rfl
def pu (p : Ch) (stk : List Ch) : List Ch := if 1 < p.2 - p.1 then p :: stk else stk
def cu (p : Ch) (cuts : List Ch) : List Ch := if 1 < p.2 - p.1 then cuts ++ [p] else cuts
def mu : List Ch → Int
  | [] => 0
  | p :: ps => (p.2 - p.1 - 1) + mu ps
theorem mu_pu {p : Ch} (h : p.1 < p.2) (stk : List Ch) : mu (pu p stk) = (p.2 - p.1 - 1) + mu stk := by
  unfold pu
  split
  · rfl
  · omega
theorem chs_root {t : Tr} {a b : Int} (h : a + t.sz = b) (h2 : 1 < b - a) : chs t a = (a, b) :: inr t a := by
  cases t with
  | lf =>
    have : ((Tr.lf.sz : Nat) : Int) = 1 := rfl
    omega
  | nd l r =>
    have e : (((Tr.nd l r).sz : Nat) : Int) = l.sz + r.sz := by show ((l.sz + r.sz : Nat) : Int) = _; omega
    rw [e] at h
    rw [chs, inr, ← h]
    congr 2
    omega
theorem pu_fit {p : Ch} (h : p.1 < p.2) {stk : List Ch} {ts : List Tr} (f : Fits (pu p stk) ts) (cuts : List Ch) : ∃ t ts', p.1 + t.sz = p.2 ∧ Fits stk ts' ∧ ∀ x, (cu p cuts).count x + (fill (pu p stk) ts).count x = cuts.count x + (chs t p.1).count x + (fill stk ts').count x := by
  unfold pu at f ⊢
  unfold cu
  split at f
  · rename_i g
    cases f with
    | cons h1 h2 =>
      rename_i t ts
      refine ⟨t, ts, h1, h2, fun x => ?_⟩
      rw [if_pos g, if_pos g, chs_root h1 g, fill, List.count_append, List.count_append]
      have e : (([p] : List Ch)).count x = ((p.1, p.2) :: ([] : List Ch)).count x := rfl
      rw [e, List.count_cons, List.count_cons, List.count_nil]
      omega
  · rename_i g
    refine ⟨.lf, ts, ?_, f, fun x => ?_⟩
    · show p.1 + ((1 : Nat) : Int) = p.2
      omega
    · rw [if_neg g, if_neg g]
      rfl
def InvC (n : Int) (cuts stk : List Ch) : Prop := ∀ ts, Fits stk ts → ∃ l r : Tr, (l.sz + r.sz + 1 : Int) = n ∧ ∀ x, cuts.count x + (fill stk ts).count x = (inr (.nd l r) 0).count x
theorem inv_step {n lo hi t : Int} {cuts stk : List Ch} (h : InvC n cuts ((lo, hi) :: stk)) (h1 : lo < t) (h2 : t < hi) : InvC n (cu (t, hi) (cu (lo, t) cuts)) (pu (t, hi) (pu (lo, t) stk)) := by
  intro ts f
  obtain ⟨tr, ts1, e1, f1, c1⟩ := pu_fit h2 f (cu (lo, t) cuts)
  obtain ⟨tl, ts2, e2, f2, c2⟩ := pu_fit h1 f1 cuts
  dsimp only at e1 e2
  have e : (((Tr.nd tl tr).sz : Nat) : Int) = tl.sz + tr.sz := by show ((tl.sz + tr.sz : Nat) : Int) = _; omega
  obtain ⟨l, r, hn, hc⟩ := h (.nd tl tr :: ts2) (.cons (by dsimp only; rw [e]; omega) f2)
  refine ⟨l, r, hn, fun x => ?_⟩
  rw [← hc x, fill, inr, List.count_append, List.count_append, show lo + (tl.sz : Int) = t by omega]
  dsimp only
  have a1 := c1 x
  have a2 := c2 x
  dsimp only at a1 a2
  omega
theorem inv_0 {n : Int} (h : 3 ≤ n) : InvC n [] [(0, n - 1)] := by
  intro ts f
  cases f with
  | cons h1 h2 =>
    rename_i t ts
    cases h2
    dsimp only at h1
    cases t with
    | lf =>
      have : ((Tr.lf.sz : Nat) : Int) = 1 := rfl
      omega
    | nd l r =>
      have e : (((Tr.nd l r).sz : Nat) : Int) = l.sz + r.sz := by show ((l.sz + r.sz : Nat) : Int) = _; omega
      refine ⟨l, r, by omega, fun x => ?_⟩
      rw [fill_cons, fill_nil, List.append_nil, List.count_nil, Nat.zero_add]
theorem inv_end {n : Int} {cuts : List Ch} (h : InvC n cuts []) : ∃ l r : Tr, (l.sz + r.sz + 1 : Int) = n ∧ cuts.Perm (inr (.nd l r) 0) := by
  obtain ⟨l, r, hn, hc⟩ := h [] .nil
  exact ⟨l, r, hn, List.perm_iff_count.mpr fun x => by have := hc x; rw [fill_nil, List.count_nil] at this; exact this⟩
def SrtC (cs : List Ch) : Prop := cs.Pairwise fun a b => lex (cr b) (cr a) = false
theorem mu_nn {n : Int} : ∀ {stk : List Ch}, (∀ p ∈ stk, 0 ≤ p.1 ∧ p.1 + 2 ≤ p.2 ∧ p.2 ≤ n - 1) → 0 ≤ mu stk
  | [], _ => Int.le_refl _
  | p :: ps, h => by
    have h1 := h p List.mem_cons_self
    have h2 := mu_nn (stk := ps) fun q hq => h q (List.mem_cons_of_mem _ hq)
    show 0 ≤ (p.2 - p.1 - 1) + mu ps
    omega
theorem cr_back {L : List (List Int)} {cuts : List Ch} (h : L.Perm (cuts.map cr)) : ∃ c : List Ch, c.Perm cuts ∧ L = c.map cr := by
  refine ⟨L.map fun l => (l.getD 0 0, l.getD 1 0), ?_, ?_⟩
  · have := h.map fun l : List Int => ((l.getD 0 0, l.getD 1 0) : Ch)
    rw [List.map_map] at this
    have e : cuts.map ((fun l : List Int => ((l.getD 0 0, l.getD 1 0) : Ch)) ∘ cr) = cuts := by
      conv => rhs; rw [← List.map_id cuts]
      exact List.map_congr_left fun p _ => rfl
    rw [e] at this
    exact this
  · rw [List.map_map]
    conv => lhs; rw [← List.map_id L]
    refine List.map_congr_left fun l hl => ?_
    obtain ⟨p, _, rfl⟩ := List.mem_map.mp (h.mem_iff.mp hl)
    rfl
theorem nl_prcs (cs : List Ch) : noLists (cs.map prc) = true := by
  have := nl_tupIs (cs.map cr)
  rw [List.map_map] at this
  exact this
theorem any_prc (c : List Ch) (p : Ch) : ((c.map prc).any fun d => PyData.eqv d (prc p)) = decide (p ∈ c) := by
  have e : ∀ a b : Ch, PyData.eqv (prc a) (prc b) = decide (a = b) := by
    intro a b
    obtain ⟨a1, a2⟩ := a
    obtain ⟨b1, b2⟩ := b
    unfold prc
    simp only [PyData.eqv, PyData.eqvAll]
    rw [Bool.eq_iff_iff]
    simp
  induction c with
  | nil => rfl
  | cons a c ih =>
    rw [List.map_cons, List.any_cons, ih, e, Bool.eq_iff_iff]
    simp only [Bool.or_eq_true, decide_eq_true_eq, List.mem_cons]
    exact ⟨fun h => h.elim (fun h => .inl h.symm) .inr, fun h => h.elim (fun h => .inl h.symm) .inr⟩
/-- the triangles in their order -/
abbrev T3 := Int × Int × Int
def trd (t : T3) : PyData := .tuple [.int t.1, .int t.2.1, .int t.2.2]
def jnd (n : Int) (c : List Ch) (i j : Int) : Bool := decide (j - i = 1 ∨ j - i = n - 1 ∨ (i, j) ∈ c)
def thr (n : Int) (c : List Ch) (i j : Int) : List Int := (rngI (j + 1) n).filter fun k => jnd n c i k && jnd n c j k
def rowT (n : Int) (c : List Ch) (i j : Int) : List T3 := if jnd n c i j = true then (thr n c i j).map fun k => (i, j, k) else []
def trl (n : Int) (c : List Ch) : List T3 := (rngI 0 n).flatMap fun i => (rngI (i + 1) n).flatMap fun j => rowT n c i j
theorem rI_snoc {lo hi : Int} (h : lo ≤ hi) : rngI lo (hi + 1) = rngI lo hi ++ [hi] := by
  unfold rngI
  rw [show (hi + 1 - lo).toNat = (hi - lo).toNat + 1 by omega, List.range_succ, List.map_append]
  simp only [List.map_cons, List.map_nil]
  congr 2
  omega
theorem rI_nil {lo hi : Int} (h : hi ≤ lo) : rngI lo hi = [] := by unfold rngI; rw [show (hi - lo).toNat = 0 by omega]; rfl
theorem thr_len {n : Int} {c : List Ch} {i j : Int} (h : 0 ≤ j) : (thr n c i j).length ≤ n.toNat := by
  have h1 := List.length_filter_le (fun k => jnd n c i k && jnd n c j k) (rngI (j + 1) n)
  rw [rngI_len] at h1
  show ((rngI (j + 1) n).filter _).length ≤ _
  omega
theorem rowT_len {n : Int} {c : List Ch} {i j : Int} (h : 0 ≤ j) : (rowT n c i j).length ≤ n.toNat := by
  unfold rowT
  split
  · rw [List.length_map]; exact thr_len h
  · exact Nat.zero_le _
theorem fl_len {α β : Type} {f : α → List β} {b : Nat} : ∀ {l : List α}, (∀ a ∈ l, (f a).length ≤ b) → (l.flatMap f).length ≤ l.length * b
  | [], _ => by simp
  | a :: l, h => by
    have h1 := h a List.mem_cons_self
    have h2 := fl_len (l := l) fun x hx => h x (List.mem_cons_of_mem _ hx)
    rw [List.flatMap_cons, List.length_append, List.length_cons, Nat.succ_mul]
    omega
theorem nl_trds (cs : List T3) : noLists (cs.map trd) = true := by
  have := nl_tupIs (cs.map fun t => [t.1, t.2.1, t.2.2])
  rw [List.map_map] at this
  exact this
theorem fm_if {α β : Type} (p : α → Bool) (f : α → β) : ∀ l : List α, l.filterMap (fun a => if p a = true then some (f a) else none) = (l.filter p).map f
  | [] => rfl
  | a :: l => by
    by_cases h : p a = true
    · rw [List.filterMap_cons_some (b := f a) (by rw [if_pos h]), List.filter_cons_of_pos h, fm_if p f l]; rfl
    · rw [List.filterMap_cons_none (by rw [if_neg h]), List.filter_cons_of_neg h, fm_if p f l]
theorem mem_trl {n : Int} {c : List Ch} {i j k : Int} : (i, j, k) ∈ trl n c ↔ 0 ≤ i ∧ i < j ∧ j < k ∧ k < n ∧ jnd n c i j = true ∧ jnd n c i k = true ∧ jnd n c j k = true := by
  unfold trl
  rw [List.mem_flatMap]
  constructor
  · rintro ⟨x, hx, h⟩
    rw [List.mem_flatMap] at h
    obtain ⟨y, hy, h⟩ := h
    have hx := mem_rngI.mp hx
    have hy := mem_rngI.mp hy
    unfold rowT at h
    split at h
    · rename_i hj
      obtain ⟨z, hz, e⟩ := List.mem_map.mp h
      obtain ⟨h1, h2⟩ := List.mem_filter.mp hz
      have h1 := mem_rngI.mp h1
      rw [Bool.and_eq_true] at h2
      cases e
      exact ⟨by omega, by omega, by omega, by omega, hj, h2.1, h2.2⟩
    · cases h
  · rintro ⟨h0, h1, h2, h3, h4, h5, h6⟩
    refine ⟨i, mem_rngI.mpr (by omega), List.mem_flatMap.mpr ⟨j, mem_rngI.mpr (by omega), ?_⟩⟩
    unfold rowT
    rw [if_pos h4]
    refine List.mem_map.mpr ⟨k, List.mem_filter.mpr ⟨mem_rngI.mpr (by omega), by rw [h5, h6]; rfl⟩, rfl⟩
theorem set_inc {n x : Int} (f : Int → Int) (h0 : 0 ≤ x) (h1 : x < n) : (((rngI 0 n).map f).map PyData.int).set x.toNat (.int (f x + 1)) = ((rngI 0 n).map fun k => f k + if k = x then 1 else 0).map PyData.int := by
  refine List.ext_getElem? fun m => ?_
  rw [List.getElem?_set, List.length_map, List.length_map, rngI_len]
  rcases Nat.lt_or_ge m n.toNat with g | g
  · rw [List.getElem?_map, List.getElem?_map, List.getElem?_map, List.getElem?_map, rngI_get (by omega)]
    by_cases e : x.toNat = m
    · rw [if_pos e, if_pos (by omega)]
      show some (PyData.int (f x + 1)) = some (PyData.int (f (0 + (m : Int)) + if 0 + (m : Int) = x then 1 else 0))
      rw [if_pos (by omega), show 0 + (m : Int) = x by omega]
    · rw [if_neg e]
      show some (PyData.int (f (0 + (m : Int)))) = some (PyData.int (f (0 + (m : Int)) + if 0 + (m : Int) = x then 1 else 0))
      rw [if_neg (by omega), Int.add_zero]
  · rw [if_neg (by omega), List.getElem?_eq_none (by rw [List.length_map, List.length_map, rngI_len]; omega), List.getElem?_eq_none (by rw [List.length_map, List.length_map, rngI_len]; omega)]
theorem at_f {n x : Int} (f : Int → Int) (h0 : 0 ≤ x) (h1 : x < n) : atI (((rngI 0 n).map f).map PyData.int) x = some (.int (f x)) := by
  rw [atI_of h0, List.getElem?_map, List.getElem?_map, rngI_get (by omega)]
  show some (PyData.int (f (0 + (x.toNat : Int)))) = _
  rw [show 0 + (x.toNat : Int) = x by omega]
theorem rep0 (n : Int) : (List.replicate n.toNat [PyData.int 0]).flatten = ((rngI 0 n).map fun _ => (0 : Int)).map PyData.int := by
  unfold rngI
  rw [List.map_map, List.map_map, show (n - 0).toNat = n.toNat by omega]
  generalize n.toNat = m
  induction m with
  | zero => rfl
  | succ m ih => rw [List.replicate_succ', List.flatten_append, ih, List.range_succ, List.map_append]; rfl
theorem trl_len {n : Int} {c : List Ch} (h0 : 0 ≤ n) (h1 : n ≤ 100) : (trl n c).length ≤ 1000000 := by
  unfold trl
  refine Nat.le_trans (fl_len (b := 10000) fun a ha => ?_) (Nat.mul_le_mul_right 10000 (show _ ≤ 100 by rw [rngI_len]; omega))
  have ha := mem_rngI.mp ha
  refine Nat.le_trans (fl_len (b := 100) fun b hb => ?_) (Nat.mul_le_mul_right 100 (show _ ≤ 100 by rw [rngI_len]; omega))
  have hb := mem_rngI.mp hb
  exact Nat.le_trans (rowT_len (by omega)) (by omega)

/-! ### what the walk counts is what the tree tells -/
def lt3 (a b : T3) : Prop := a.1 < b.1 ∨ (a.1 = b.1 ∧ (a.2.1 < b.2.1 ∨ (a.2.1 = b.2.1 ∧ a.2.2 < b.2.2)))
theorem trl_up (n : Int) (c : List Ch) : (trl n c).Pairwise lt3 := by
  unfold trl
  rw [List.pairwise_flatMap]
  have key : ∀ i, ∀ x ∈ (rngI (i + 1) n).flatMap (fun j => rowT n c i j), x.1 = i := by
    intro i x hx
    obtain ⟨j, _, hx⟩ := List.mem_flatMap.mp hx
    unfold rowT at hx
    split at hx
    · obtain ⟨k, _, rfl⟩ := List.mem_map.mp hx; rfl
    · cases hx
  have key2 : ∀ i j, ∀ x ∈ rowT n c i j, x.1 = i ∧ x.2.1 = j := by
    intro i j x hx
    unfold rowT at hx
    split at hx
    · obtain ⟨k, _, rfl⟩ := List.mem_map.mp hx; exact ⟨rfl, rfl⟩
    · cases hx
  refine ⟨fun i _ => ?_, ?_⟩
  · rw [List.pairwise_flatMap]
    refine ⟨fun j _ => ?_, ?_⟩
    · unfold rowT
      split
      · rw [List.pairwise_map]
        unfold thr
        exact (rngI_sorted.filter _).imp fun h => .inr ⟨rfl, .inr ⟨rfl, h⟩⟩
      · exact .nil
    · refine rngI_sorted.imp fun {j1 j2} h x hx y hy => ?_
      have a := key2 _ _ x hx
      have b := key2 _ _ y hy
      exact .inr ⟨by rw [a.1, b.1], .inl (by rw [a.2, b.2]; exact h)⟩
  · refine rngI_sorted.imp fun {i1 i2} h x hx y hy => ?_
    exact .inl (by rw [key _ x hx, key _ y hy]; exact h)
theorem lt3_nodup {L : List T3} (h : L.Pairwise lt3) : L.Nodup := h.imp fun {a b} h e => by
  subst e
  unfold lt3 at h
  omega
theorem tris_in : ∀ (t : Tr) (a : Int) (x : T3), x ∈ tris t a → a ≤ x.1 ∧ x.1 < x.2.1 ∧ x.2.1 < x.2.2 ∧ x.2.2 ≤ a + t.sz := by
  intro t a ⟨i, j, k⟩ h
  obtain ⟨h1, h2, h3, h4, -⟩ := (tri_iff t a i j k).mp h
  have := Jn_in t a _ h3
  have := Jn_in t a _ h4
  dsimp only at *
  omega
theorem tris_nodup : ∀ (t : Tr) (a : Int), (tris t a).Nodup
  | .lf, _ => .nil
  | .nd l r, a => by
    have l0 := l.pos
    have r0 := r.pos
    rw [tris, List.nodup_cons, List.mem_append, List.nodup_append]
    refine ⟨?_, tris_nodup l a, tris_nodup r _, ?_⟩
    · rintro (h | h)
      · have := tris_in l a _ h; dsimp only at this; omega
      · have := tris_in r _ _ h; dsimp only at this; omega
    · intro x hx y hy e
      subst e
      have := tris_in l a _ hx
      have := tris_in r _ _ hy
      omega
theorem jnd_iff {l r : Tr} {n : Int} {c : List Ch} {i j : Int} (hn : (l.sz + r.sz + 1 : Int) = n) (hc : c.Perm (inr (.nd l r) 0)) (h0 : 0 ≤ i) (h1 : i < j) (h2 : j < n) : jnd n c i j = true ↔ Jn (.nd l r) 0 (i, j) := by
  have e : (((Tr.nd l r).sz : Nat) : Int) = l.sz + r.sz := by show ((l.sz + r.sz : Nat) : Int) = _; omega
  rw [Jn_iff, e]
  unfold jnd
  rw [decide_eq_true_eq, hc.mem_iff, chs, List.mem_cons]
  have e2 : inr (.nd l r) 0 = chs l 0 ++ chs r (0 + l.sz) := rfl
  rw [e2]
  dsimp only
  rw [Prod.mk.injEq]
  constructor
  · rintro (h | h | h)
    · exact .inl (by omega)
    · exact .inr (.inl (by omega))
    · exact .inr (.inr h)
  · rintro (h | h | h)
    · exact .inl (by omega)
    · exact .inr (.inl (by omega))
    · exact .inr (.inr h)
theorem trl_perm {l r : Tr} {n : Int} {c : List Ch} (hn : (l.sz + r.sz + 1 : Int) = n) (hc : c.Perm (inr (.nd l r) 0)) : (trl n c).Perm (tris (.nd l r) 0) := by
  have e : (((Tr.nd l r).sz : Nat) : Int) = l.sz + r.sz := by show ((l.sz + r.sz : Nat) : Int) = _; omega
  refine (List.perm_ext_iff_of_nodup (lt3_nodup (trl_up n c)) (tris_nodup _ _)).mpr ?_
  rintro ⟨i, j, k⟩
  rw [mem_trl, tri_iff]
  constructor
  · rintro ⟨h0, h1, h2, h3, h4, h5, h6⟩
    exact ⟨h1, h2, (jnd_iff hn hc h0 h1 (by omega)).mp h4, (jnd_iff hn hc h0 (by omega) h3).mp h5, (jnd_iff hn hc (by omega) h2 h3).mp h6⟩
  · rintro ⟨h1, h2, h4, h5, h6⟩
    have a1 := Jn_in _ _ _ h4
    have a2 := Jn_in _ _ _ h5
    rw [e] at a1 a2
    dsimp only at a1 a2
    exact ⟨by omega, h1, h2, by omega, (jnd_iff hn hc (by omega) h1 (by omega)).mpr h4, (jnd_iff hn hc (by omega) (by omega) (by omega)).mpr h5, (jnd_iff hn hc (by omega) h2 (by omega)).mpr h6⟩
theorem counts_is {l r : Tr} {n : Int} {c : List Ch} (hn : (l.sz + r.sz + 1 : Int) = n) (hc : c.Perm (inr (.nd l r) 0)) : ((rngI 0 n).map fun k => ((trl n c).countP (hasT k) : Int)) = cnts (.nd l r) := by
  have e : (((Tr.nd l r).sz : Nat) : Int) = l.sz + r.sz := by show ((l.sz + r.sz : Nat) : Int) = _; omega
  unfold cnts rngI
  rw [List.map_map, show (n - 0).toNat = (Tr.nd l r).sz + 1 by omega]
  refine List.map_congr_left fun k _ => ?_
  show ((List.countP (hasT (0 + (k : Int))) (trl n c) : Nat) : Int) = _
  rw [Int.zero_add, (trl_perm hn hc).countP_eq, ← cn_tris]
theorem counts_has {l r : Tr} {n : Int} {c : List Ch} (hn : (l.sz + r.sz + 1 : Int) = n) (hc : c.Perm (inr (.nd l r) 0)) : cnts (.nd l r) = (rngI 0 n).map fun k => 1 + (c.countP (hasC k) : Int) := by
  have e : (((Tr.nd l r).sz : Nat) : Int) = l.sz + r.sz := by show ((l.sz + r.sz : Nat) : Int) = _; omega
  unfold cnts rngI
  rw [List.map_map, show (n - 0).toNat = (Tr.nd l r).sz + 1 by omega]
  refine List.map_congr_left fun k hk => ?_
  have hk := List.mem_range.mp hk
  show ((cn (.nd l r) 0 k : Nat) : Int) = 1 + ((c.countP (hasC (0 + (k : Int))) : Nat) : Int)
  rw [cn_inr (by omega) (by omega), Int.zero_add, hc.countP_eq]
  omega
theorem chs_len : ∀ (t : Tr) (a : Int), (chs t a).length + 1 = t.sz
  | .lf, _ => rfl
  | .nd l r, a => by
    have h1 := chs_len l a
    have h2 := chs_len r (a + l.sz)
    show (chs l a ++ chs r (a + l.sz)).length + 1 + 1 = l.sz + r.sz
    rw [List.length_append]
    omega
theorem cuts_len {l r : Tr} {n : Int} {c : List Ch} (hn : (l.sz + r.sz + 1 : Int) = n) (hc : c.Perm (inr (.nd l r) 0)) : (c.length : Int) = n - 3 := by
  have h1 := chs_len l 0
  have h2 := chs_len r (0 + l.sz)
  have h3 : (inr (.nd l r) 0).length = (chs l 0).length + (chs r (0 + l.sz)).length := by rw [inr, List.length_append]
  rw [hc.length_eq]
  omega

/-! ### cuts made by cutting off corners, as trees -/
def tot : List Tr → Int
  | [] => 0
  | t :: ts => t.sz + tot ts
def cor : Int → List Tr → List Int
  | a, [] => [a]
  | a, t :: ts => a :: cor (a + t.sz) ts
def fch : Int → List Tr → List Ch
  | _, [] => []
  | a, t :: ts => chs t a ++ fch (a + t.sz) ts
theorem cor_len : ∀ (ts : List Tr) (a : Int), (cor a ts).length = ts.length + 1
  | [], _ => rfl
  | t :: ts, a => by rw [cor, List.length_cons, cor_len ts, List.length_cons]
theorem cor_0 (a : Int) (ts : List Tr) : (cor a ts)[0]? = some a := by cases ts <;> rfl
theorem cor_e : ∀ (ts : List Tr) (a : Int), (cor a ts)[ts.length]? = some (a + tot ts)
  | [], a => by rw [tot, Int.add_zero]; rfl
  | t :: ts, a => by
    rw [cor, List.length_cons, List.getElem?_cons_succ, cor_e ts, tot, Int.add_assoc]
theorem cor_app : ∀ (A : List Tr) (a : Int) (B : List Tr) (k : Nat), (cor a (A ++ B))[A.length + k]? = (cor (a + tot A) B)[k]?
  | [], a, B, k => by rw [tot, Int.add_zero, List.nil_append, List.length_nil, Nat.zero_add]
  | t :: A, a, B, k => by
    rw [List.cons_append, cor, List.length_cons, show A.length + 1 + k = A.length + k + 1 by omega, List.getElem?_cons_succ, cor_app A, tot, Int.add_assoc]
theorem cor_er : ∀ (A : List Tr) (a : Int) (t u : Tr) (B : List Tr), (cor a (A ++ t :: u :: B)).eraseIdx (A.length + 1) = cor a (A ++ .nd t u :: B)
  | [], a, t, u, B => by
    show a :: cor (a + t.sz + u.sz) B = a :: cor (a + ((t.sz + u.sz : Nat) : Int)) B
    rw [Int.natCast_add, Int.add_assoc]
  | s :: A, a, t, u, B => by
    rw [List.cons_append, cor, List.length_cons, List.eraseIdx_cons_succ, cor_er A, List.cons_append, cor]
theorem cor_er0 (a : Int) (t : Tr) (ts : List Tr) : (cor a (t :: ts)).eraseIdx 0 = cor (a + t.sz) ts := rfl
theorem cor_ere : ∀ (A : List Tr) (a : Int) (t : Tr), (cor a (A ++ [t])).eraseIdx (A.length + 1) = cor a A
  | [], a, t => rfl
  | s :: A, a, t => by
    rw [List.cons_append, cor, List.length_cons, List.eraseIdx_cons_succ, cor_ere A, cor]
theorem tot_app : ∀ (A B : List Tr), tot (A ++ B) = tot A + tot B
  | [], B => by rw [tot, List.nil_append, Int.zero_add]
  | t :: A, B => by rw [List.cons_append, tot, tot, tot_app A]; omega
theorem fch_app : ∀ (A : List Tr) (a : Int) (B : List Tr), fch a (A ++ B) = fch a A ++ fch (a + tot A) B
  | [], a, B => by rw [tot, Int.add_zero]; rfl
  | t :: A, a, B => by rw [List.cons_append, fch, fch, tot, fch_app A, List.append_assoc, Int.add_assoc]
theorem tot_nn : ∀ ts : List Tr, (ts.length : Int) ≤ tot ts
  | [] => Int.le_refl _
  | t :: ts => by
    have := tot_nn ts
    have := Tr.pos t
    rw [tot, List.length_cons]
    omega
/-- the corners left, and the chords cut so far -/
def Ear (n : Int) (c : List Int) (L : List Ch) : Prop := ∃ (a : Int) (ts : List Tr), c = cor a ts ∧ 0 ≤ a ∧ a + tot ts ≤ n - 1 ∧ ∀ l r : Tr, (l.sz + r.sz : Int) = tot ts → ∃ l' r' : Tr, (l'.sz + r'.sz + 1 : Int) = n ∧ ∀ x, (inr (.nd l' r') 0).count x + (fch a ts).count x = L.count x + (inr (.nd l r) a).count x
theorem cor_reps : ∀ (m : Nat) (a : Int), cor a (List.replicate m .lf) = (List.range (m + 1)).map fun k : Nat => a + (k : Int)
  | 0, a => by simp [cor]
  | m + 1, a => by
    rw [List.replicate_succ, cor, cor_reps m, List.range_succ_eq_map (n := m + 1), List.map_cons, List.map_map]
    congr 1
    · simp
    · refine List.map_congr_left fun k _ => ?_
      show a + ((1 : Nat) : Int) + k = a + ((k + 1 : Nat) : Int)
      omega
theorem tot_reps : ∀ m : Nat, tot (List.replicate m .lf) = m
  | 0 => rfl
  | m + 1 => by
    rw [List.replicate_succ, tot, tot_reps m]
    show ((1 : Nat) : Int) + m = _
    omega
theorem fch_reps : ∀ (m : Nat) (a : Int), fch a (List.replicate m .lf) = []
  | 0, _ => rfl
  | m + 1, a => by rw [List.replicate_succ, fch, fch_reps m]; rfl
theorem ear_0 {N : Nat} (h : 3 ≤ N) : Ear N ((List.range N).map fun k : Nat => (k : Int)) [] := by
  refine ⟨0, List.replicate (N - 1) .lf, ?_, Int.le_refl _, by rw [tot_reps]; omega, fun l r e => ⟨l, r, by rw [tot_reps] at e; omega, fun x => by rw [fch_reps, List.count_nil, Nat.add_zero, Nat.zero_add]⟩⟩
  rw [cor_reps, show N - 1 + 1 = N by omega]
  refine List.map_congr_left fun k _ => by omega
theorem sp1 {α : Type} : ∀ (ts : List α) (j : Nat), j + 1 < ts.length → ∃ A t u B, ts = A ++ t :: u :: B ∧ A.length = j
  | t :: u :: B, 0, _ => ⟨[], t, u, B, rfl, rfl⟩
  | s :: ts, j + 1, h => by
    obtain ⟨A, t, u, B, rfl, e⟩ := sp1 ts j (by simpa using h)
    exact ⟨s :: A, t, u, B, rfl, by rw [List.length_cons, e]⟩
theorem spe {α : Type} : ∀ (ts : List α), ts ≠ [] → ∃ A t, ts = A ++ [t] := fun ts h => ⟨ts.dropLast, ts.getLast h, (List.dropLast_concat_getLast h).symm⟩
theorem nd_sz (l r : Tr) : (((Tr.nd l r).sz : Nat) : Int) = l.sz + r.sz := by show ((l.sz + r.sz : Nat) : Int) = _; omega
theorem inr_nd (l r : Tr) (a : Int) : inr (.nd l r) a = chs l a ++ chs r (a + l.sz) := rfl
theorem chs_nd (l r : Tr) (a : Int) : chs (.nd l r) a = (a, a + l.sz + r.sz) :: inr (.nd l r) a := rfl
theorem ear_step {n : Int} {c : List Int} {L : List Ch} (h : Ear n c L) {j : Nat} (hj : j < c.length) (h4 : 4 ≤ c.length) {x y : Int} (hx : c[if j = 0 then c.length - 1 else j - 1]? = some x) (hy : c[if j + 1 = c.length then 0 else j + 1]? = some y) :
    0 ≤ (if y < x then y else x) ∧ (if y < x then y else x) + 2 ≤ (if y > x then y else x) ∧ (if y > x then y else x) ≤ n - 1 ∧ Ear n (c.eraseIdx j) (L ++ [(if y < x then y else x, if y > x then y else x)]) := by
  obtain ⟨a, ts, rfl, a0, an, hc⟩ := h
  rw [cor_len] at hj h4 hx hy
  rcases Nat.eq_zero_or_pos j with rfl | hj0
  · obtain _ | ⟨t, ts⟩ := ts
    · simp at h4
    · rw [if_pos rfl, Nat.add_sub_cancel, cor_e] at hx
      rw [List.length_cons] at h4 hj
      rw [if_neg (by rw [List.length_cons]; omega), cor, List.getElem?_cons_succ, cor_0] at hy
      injection hx with hx
      injection hy with hy
      have t1 := tot_nn ts
      have t2 := Tr.pos t
      rw [tot] at hx an
      have e1 : (if y < x then y else x) = y := if_pos (by omega)
      have e2 : (if y > x then y else x) = x := if_neg (by omega)
      rw [e1, e2]
      refine ⟨by omega, by omega, by omega, a + t.sz, ts, rfl, by omega, by omega, fun l r e => ?_⟩
      obtain ⟨l', r', hn, hh⟩ := hc t (.nd l r) (by rw [nd_sz, tot]; omega)
      refine ⟨l', r', hn, fun z => ?_⟩
      have := hh z
      rw [fch, inr_nd t, chs_nd, List.count_append, List.count_append, List.count_cons] at this
      rw [List.count_append, List.count_singleton]
      have e3 : (y, x) = (a + (t.sz : Int), a + (t.sz : Int) + l.sz + r.sz) := by rw [← hy, ← hx]; congr 1; omega
      rw [e3]
      omega
  · by_cases hl : j + 1 = ts.length + 1
    · obtain ⟨A, t, rfl⟩ := spe ts (by intro e; rw [e] at h4; simp at h4)
      rw [List.length_append, List.length_singleton] at hj h4 hl
      rw [if_neg (by omega), show j - 1 = A.length + 0 by omega, cor_app, cor_0] at hx
      rw [if_pos (by rw [List.length_append, List.length_singleton]; omega), cor_0] at hy
      injection hx with hx
      injection hy with hy
      have t1 := tot_nn A
      have t2 := Tr.pos t
      rw [tot_app, tot, tot] at an
      have e1 : (if y < x then y else x) = y := if_pos (by omega)
      have e2 : (if y > x then y else x) = x := if_neg (by omega)
      rw [e1, e2]
      refine ⟨by omega, by omega, by omega, a, A, by rw [show j = A.length + 1 by omega, cor_ere], by omega, by omega, fun l r e => ?_⟩
      obtain ⟨l', r', hn, hh⟩ := hc (.nd l r) t (by rw [nd_sz, tot_app, tot, tot]; omega)
      refine ⟨l', r', hn, fun z => ?_⟩
      have := hh z
      rw [fch_app, fch, fch, List.append_nil, inr_nd _ t, chs_nd, nd_sz, List.count_append, List.count_append, List.count_cons, e] at this
      rw [List.count_append, List.count_singleton]
      have e3 : (y, x) = (a, a + (l.sz : Int) + r.sz) := by rw [← hy, ← hx]; congr 1; omega
      rw [e3]
      omega
    · obtain ⟨A, t, u, B, rfl, e⟩ := sp1 ts (j - 1) (by omega)
      rw [List.length_append, List.length_cons, List.length_cons] at hj h4 hl
      rw [if_neg (by omega), show j - 1 = A.length + 0 by omega, cor_app, cor_0] at hx
      rw [if_neg (by rw [List.length_append, List.length_cons, List.length_cons]; omega), show j + 1 = A.length + 2 by omega, cor_app, cor, cor, List.getElem?_cons_succ, List.getElem?_cons_succ, cor_0] at hy
      injection hx with hx
      injection hy with hy
      have t1 := tot_nn A
      have t2 := Tr.pos t
      have t3 := Tr.pos u
      have t4 := tot_nn B
      rw [tot_app, tot, tot] at an
      have e1 : (if y < x then y else x) = x := if_neg (by omega)
      have e2 : (if y > x then y else x) = y := if_pos (by omega)
      rw [e1, e2]
      refine ⟨by omega, by omega, by omega, a, A ++ .nd t u :: B, by rw [show j = A.length + 1 by omega, cor_er], by omega, by rw [tot_app, tot, nd_sz]; omega, fun l r e => ?_⟩
      rw [tot_app, tot, nd_sz] at e
      obtain ⟨l', r', hn, hh⟩ := hc l r (by rw [tot_app, tot, tot]; omega)
      refine ⟨l', r', hn, fun z => ?_⟩
      have := hh z
      rw [fch_app, fch, fch, List.count_append, List.count_append, List.count_append] at this
      rw [List.count_append (l₁ := L), List.count_singleton, fch_app, fch, chs_nd, inr_nd t, nd_sz, List.count_append, List.count_append, List.count_cons, List.count_append]
      have e3 : (x, y) = (a + tot A, a + tot A + t.sz + u.sz) := by rw [← hx, ← hy]
      rw [e3, show a + tot A + ((t.sz : Int) + u.sz) = a + tot A + t.sz + u.sz by omega]
      omega
theorem ear_end {n : Int} {c : List Int} {L : List Ch} (h : Ear n c L) (h3 : c.length = 3) : ∃ l r : Tr, (l.sz + r.sz + 1 : Int) = n ∧ L.Perm (inr (.nd l r) 0) := by
  obtain ⟨a, ts, rfl, a0, an, hc⟩ := h
  rw [cor_len] at h3
  obtain _ | ⟨t, _ | ⟨u, _ | ⟨v, ts⟩⟩⟩ := ts
  · simp at h3
  · simp at h3
  · obtain ⟨l, r, hn, hh⟩ := hc t u (by rw [tot, tot, tot]; omega)
    refine ⟨l, r, hn, List.perm_iff_count.mpr fun x => ?_⟩
    have := hh x
    rw [fch, fch, fch, List.append_nil, inr_nd t] at this
    omega
  · simp at h3

def ltC (a b : Ch) : Prop := a.1 < b.1 ∨ (a.1 = b.1 ∧ a.2 < b.2)
theorem pw_ext {α : Type} {R : α → α → Prop} (anti : ∀ a b, R a b → R b a → a = b) : ∀ {L M : List α}, L.Pairwise R → M.Pairwise R → L.Perm M → L = M
  | [], M, _, _, p => (List.nil_perm.mp p).symm
  | x :: L, [], _, _, p => absurd (List.perm_nil.mp p) (by simp)
  | x :: L, y :: M, h1, h2, p => by
    rw [List.pairwise_cons] at h1 h2
    have e : x = y := by
      have hx : x ∈ y :: M := p.mem_iff.mp List.mem_cons_self
      have hy : y ∈ x :: L := p.mem_iff.mpr List.mem_cons_self
      rcases List.mem_cons.mp hx with e | hx
      · exact e
      · rcases List.mem_cons.mp hy with e | hy
        · exact e.symm
        · exact anti _ _ (h1.1 y hy) (h2.1 x hx)
    subst e
    rw [pw_ext anti h1.2 h2.2 ((List.perm_cons x).mp p)]
theorem lex_lt {a b : Ch} : lex (cr a) (cr b) = true ↔ ltC a b := by
  obtain ⟨i, j⟩ := a
  obtain ⟨u, v⟩ := b
  unfold ltC
  show HT.lexLt [i, j] [u, v] = true ↔ _
  rw [HT.lexLt_cons]
  dsimp only
  by_cases e : i = u
  · rw [if_pos e, HT.lexLt_cons]
    by_cases e2 : j = v
    · rw [if_pos e2]
      have : HT.lexLt ([] : List Int) [] = false := rfl
      rw [this]
      constructor
      · intro h; cases h
      · intro h; omega
    · rw [if_neg e2, decide_eq_true_eq]
      constructor
      · intro h; exact .inr ⟨e, h⟩
      · intro h; omega
  · rw [if_neg e, decide_eq_true_eq]
    constructor
    · intro h; exact .inl h
    · intro h; omega
theorem lex_cr {a b : Ch} (h : ltC a b) : lex (cr b) (cr a) = false := lex_asym _ _ (lex_lt.mpr h)
theorem srtC_up {L : List Ch} (h : L.Pairwise ltC) : SrtC L := h.imp lex_cr
theorem lex_nlt {a b : Ch} (h : lex (cr b) (cr a) = false) : ltC a b ∨ a = b := by
  have : ¬ ltC b a := fun h' => by rw [lex_lt.mpr h'] at h; cases h
  unfold ltC at *
  obtain ⟨i, j⟩ := a
  obtain ⟨u, v⟩ := b
  dsimp only at *
  rw [Prod.mk.injEq]
  omega
theorem srtC_anti (a b : Ch) (h1 : lex (cr b) (cr a) = false) (h2 : lex (cr a) (cr b) = false) : a = b := by
  rcases lex_nlt h1 with h | h
  · rw [lex_lt.mpr h] at h2; cases h2
  · exact h
theorem srtC_eq {c d : List Ch} (h1 : SrtC c) (h2 : SrtC d) (h : c.Perm d) : c = d := pw_ext srtC_anti h1 h2 h
theorem srtC_lt {c : List Ch} (h : SrtC c) (hn : c.Nodup) : c.Pairwise ltC := by
  induction c with
  | nil => exact .nil
  | cons x c ih =>
    unfold SrtC at h
    rw [List.pairwise_cons] at h
    rw [List.nodup_cons] at hn
    rw [List.pairwise_cons]
    refine ⟨fun y hy => ?_, ih h.2 hn.2⟩
    rcases lex_nlt (h.1 y hy) with h' | h'
    · exact h'
    · exact absurd (h' ▸ hy) hn.1

/-! ### lists of pairs that are cuts -/
def chd (n : Int) (p : Ch) : Prop := 0 ≤ p.1 ∧ p.1 + 2 ≤ p.2 ∧ p.2 < n ∧ ¬ (p.1 = 0 ∧ p.2 = n - 1)
def crs (p q : Ch) : Prop := (p.1 < q.1 ∧ q.1 < p.2 ∧ p.2 < q.2) ∨ (q.1 < p.1 ∧ p.1 < q.2 ∧ q.2 < p.2)
/-- the pair at the place can stand there -/
def fitAt (n : Int) (c : List Ch) (j : Nat) (p : Ch) : Prop := chd n p ∧ (∀ q, 0 < j → c[j - 1]? = some q → ltC q p) ∧ ∀ q ∈ c.take j, ¬ crs p q
def Fit (n : Int) (c : List Ch) : Prop := ∀ (j : Nat) (p : Ch), c[j]? = some p → fitAt n c j p
theorem chs_nocr : ∀ (t : Tr) (a : Int) (p q : Ch), p ∈ chs t a → q ∈ chs t a → ¬ crs p q
  | .lf, _, _, _, h, _ => by cases h
  | .nd l r, a, p, q, hp, hq => by
    have l0 := l.pos
    have r0 := r.pos
    have hp' := chs_in _ _ _ hp
    have hq' := chs_in _ _ _ hq
    have e : (((Tr.nd l r).sz : Nat) : Int) = l.sz + r.sz := nd_sz l r
    rw [chs, List.mem_cons, List.mem_append] at hp hq
    rcases hp with rfl | hp | hp
    · unfold crs; dsimp only at *; omega
    · rcases hq with rfl | hq | hq
      · unfold crs; dsimp only at *; omega
      · exact chs_nocr l a p q hp hq
      · have h1 := chs_in _ _ _ hp
        have h2 := chs_in _ _ _ hq
        unfold crs; omega
    · rcases hq with rfl | hq | hq
      · unfold crs; dsimp only at *; omega
      · have h1 := chs_in _ _ _ hp
        have h2 := chs_in _ _ _ hq
        unfold crs; omega
      · exact chs_nocr r _ p q hp hq
theorem chs_nodup : ∀ (t : Tr) (a : Int), (chs t a).Nodup
  | .lf, _ => .nil
  | .nd l r, a => by
    have l0 := l.pos
    have r0 := r.pos
    rw [chs, List.nodup_cons, List.mem_append, List.nodup_append]
    refine ⟨?_, chs_nodup l a, chs_nodup r _, ?_⟩
    · rintro (h | h)
      · have := chs_in _ _ _ h; dsimp only at this; omega
      · have := chs_in _ _ _ h; dsimp only at this; omega
    · intro x hx y hy e
      subst e
      have := chs_in _ _ _ hx
      have := chs_in _ _ _ hy
      omega
theorem inr_nodup (l r : Tr) (a : Int) : (inr (.nd l r) a).Nodup := by
  have := chs_nodup (.nd l r) a
  rw [chs_nd, List.nodup_cons] at this
  exact this.2
theorem inr_chd {l r : Tr} {p : Ch} (h : p ∈ inr (.nd l r) 0) : chd (l.sz + r.sz + 1) p := by
  have l0 := l.pos
  have r0 := r.pos
  rw [inr_nd, List.mem_append] at h
  unfold chd
  rcases h with h | h
  · have := chs_in _ _ _ h; omega
  · have := chs_in _ _ _ h; omega
theorem fit_tree {l r : Tr} {n : Int} {c : List Ch} (hn : (l.sz + r.sz + 1 : Int) = n) (hc : c.Perm (inr (.nd l r) 0)) (hs : SrtC c) : Fit n c := by
  have nd : c.Nodup := hc.nodup_iff.mpr (inr_nodup l r 0)
  have up := srtC_lt hs nd
  have up' := List.pairwise_iff_getElem.mp up
  intro j p hj
  obtain ⟨hl, rfl⟩ := List.getElem?_eq_some_iff.mp hj
  have hm : ∀ q ∈ c, q ∈ chs (.nd l r) 0 := fun q hq => by rw [chs_nd]; exact List.mem_cons_of_mem _ (hc.mem_iff.mp hq)
  refine ⟨hn ▸ inr_chd (hc.mem_iff.mp (List.getElem_mem hl)), fun q j0 hq => ?_, fun q hq => ?_⟩
  · obtain ⟨hl2, rfl⟩ := List.getElem?_eq_some_iff.mp hq
    exact up' _ _ hl2 hl (by omega)
  · exact chs_nocr _ _ _ _ (hm _ (List.getElem_mem hl)) (hm q (List.mem_of_mem_take hq))

/-! ### a cut flipped: the tree turned at it -/
inductive Rot : Int → Tr → Tr → Ch → Ch → Prop
  | rr (x : Int) (a b d : Tr) : Rot x (.nd (.nd a b) d) (.nd a (.nd b d)) (x, x + a.sz + b.sz) (x + a.sz, x + a.sz + b.sz + d.sz)
  | ll (x : Int) (a b d : Tr) : Rot x (.nd a (.nd b d)) (.nd (.nd a b) d) (x + a.sz, x + a.sz + b.sz + d.sz) (x, x + a.sz + b.sz)
  | goL {x : Int} {l l' : Tr} {p q : Ch} (r : Tr) (h : Rot x l l' p q) : Rot x (.nd l r) (.nd l' r) p q
  | goR {x : Int} {r r' : Tr} {p q : Ch} (l : Tr) (h : Rot (x + l.sz) r r' p q) : Rot x (.nd l r) (.nd l r') p q
theorem rot_symm {x : Int} {t t' : Tr} {p q : Ch} (h : Rot x t t' p q) : Rot x t' t q p := by
  induction h with
  | rr x a b d => exact .ll x a b d
  | ll x a b d => exact .rr x a b d
  | goL r _ ih => exact .goL r ih
  | goR l _ ih => exact .goR l ih
theorem rot_sz {x : Int} {t t' : Tr} {p q : Ch} (h : Rot x t t' p q) : t.sz = t'.sz := by
  induction h with
  | rr x a b d => show a.sz + b.sz + d.sz = a.sz + (b.sz + d.sz); omega
  | ll x a b d => show a.sz + (b.sz + d.sz) = a.sz + b.sz + d.sz; omega
  | @goL x l l' p q r _ ih => show l.sz + r.sz = l'.sz + r.sz; omega
  | @goR x r r' p q l _ ih => show l.sz + r.sz = l.sz + r'.sz; omega
theorem rot_nd {x : Int} {t t' : Tr} {p q : Ch} (h : Rot x t t' p q) : (∃ l r, t = .nd l r) ∧ ∃ l r, t' = .nd l r := by
  cases h <;> exact ⟨⟨_, _, rfl⟩, _, _, rfl⟩
theorem rot_ex : ∀ (t : Tr) (x : Int) (p : Ch), p ∈ inr t x → ∃ t' q, Rot x t t' p q
  | .lf, _, _, h => by cases h
  | .nd l r, x, p, h => by
    rw [inr_nd, List.mem_append] at h
    rcases h with h | h
    · obtain _ | ⟨a, b⟩ := l
      · cases h
      · rw [chs_nd, List.mem_cons] at h
        rcases h with rfl | h
        · exact ⟨_, _, .rr x a b r⟩
        · obtain ⟨t', q, hr⟩ := rot_ex _ _ _ h
          exact ⟨_, _, .goL r hr⟩
    · obtain _ | ⟨a, b⟩ := r
      · cases h
      · rw [chs_nd, List.mem_cons] at h
        rcases h with rfl | h
        · exact ⟨_, _, .ll x l a b⟩
        · obtain ⟨t', q, hr⟩ := rot_ex _ _ _ h
          exact ⟨_, _, .goR l hr⟩
/-- one chord goes, one comes -/
theorem rot_cnt {x : Int} {t t' : Tr} {p q : Ch} (h : Rot x t t' p q) : ∀ z : Ch, (inr t' x).count z + List.count z [p] = (inr t x).count z + List.count z [q] := by
  have up : ∀ {x : Int} {t t' : Tr} {p q : Ch}, Rot x t t' p q → (∀ z : Ch, (inr t' x).count z + List.count z [p] = (inr t x).count z + List.count z [q]) → ∀ z : Ch, (chs t' x).count z + List.count z [p] = (chs t x).count z + List.count z [q] := by
    intro x t t' p q h ih z
    have hs := rot_sz h
    obtain ⟨⟨l, r, rfl⟩, l', r', rfl⟩ := rot_nd h
    have hs' : l.sz + r.sz = l'.sz + r'.sz := hs
    have := ih z
    rw [chs_nd, chs_nd, show x + (l'.sz : Int) + r'.sz = x + l.sz + r.sz by omega]
    simp only [List.count_cons, List.count_nil] at this ⊢
    omega
  induction h with
  | rr x a b d =>
    intro z
    rw [inr_nd, inr_nd, chs_nd a b, chs_nd b d, inr_nd, inr_nd, nd_sz]
    simp only [List.count_append, List.count_cons, List.count_nil, Int.add_assoc]
    omega
  | ll x a b d =>
    intro z
    rw [inr_nd, inr_nd, chs_nd a b, chs_nd b d, inr_nd, inr_nd, nd_sz]
    simp only [List.count_append, List.count_cons, List.count_nil, Int.add_assoc]
    omega
  | @goL x l l' p q r h ih =>
    intro z
    have := up h ih z
    have hs := rot_sz h
    rw [inr_nd, inr_nd, List.count_append, List.count_append, hs]
    omega
  | @goR x r r' p q l h ih =>
    intro z
    have := up h ih z
    rw [inr_nd, inr_nd, List.count_append, List.count_append]
    omega
theorem inr_in {t : Tr} {x : Int} {p : Ch} (h : p ∈ inr t x) : x ≤ p.1 ∧ p.1 + 2 ≤ p.2 ∧ p.2 ≤ x + t.sz ∧ p.2 - p.1 < t.sz := by
  obtain _ | ⟨l, r⟩ := t
  · cases h
  · have l0 := l.pos
    have r0 := r.pos
    rw [inr_nd, List.mem_append] at h
    rw [nd_sz]
    rcases h with h | h
    · have := chs_in _ _ _ h; omega
    · have := chs_in _ _ _ h; omega
theorem rot_mem {x : Int} {t t' : Tr} {p q : Ch} (h : Rot x t t' p q) : p ∈ inr t x := by
  induction h with
  | rr x a b d => rw [inr_nd, chs_nd]; exact List.mem_append_left _ List.mem_cons_self
  | ll x a b d => rw [inr_nd, chs_nd]; exact List.mem_append_right _ List.mem_cons_self
  | @goL x l l' p q r h ih =>
    obtain ⟨⟨a, b, rfl⟩, -⟩ := rot_nd h
    rw [inr_nd, chs_nd a b]
    exact List.mem_append_left _ (List.mem_cons_of_mem _ ih)
  | @goR x r r' p q l h ih =>
    obtain ⟨⟨a, b, rfl⟩, -⟩ := rot_nd h
    rw [inr_nd, chs_nd a b]
    exact List.mem_append_right _ (List.mem_cons_of_mem _ ih)
theorem rot_crs {x : Int} {t t' : Tr} {p q : Ch} (h : Rot x t t' p q) : crs p q := by
  induction h with
  | rr x a b d =>
    have := a.pos
    have := b.pos
    have := d.pos
    left; dsimp only; omega
  | ll x a b d =>
    have := a.pos
    have := b.pos
    have := d.pos
    right; dsimp only; omega
  | goL _ _ ih => exact ih
  | goR _ _ ih => exact ih
/-- the third corners of the triangles at a chord -/
def Th (t : Tr) (x : Int) (p : Ch) (k : Int) : Prop := (k, p.1, p.2) ∈ tris t x ∨ (p.1, k, p.2) ∈ tris t x ∨ (p.1, p.2, k) ∈ tris t x
theorem rot_th {x : Int} {t t' : Tr} {p q : Ch} (h : Rot x t t' p q) : ∀ k, Th t x p k ↔ k = q.1 ∨ k = q.2 := by
  induction h with
  | rr x a b d =>
    intro k
    have a0 := a.pos
    have b0 := b.pos
    have d0 := d.pos
    unfold Th
    simp only [tris, List.mem_cons, List.mem_append, Prod.mk.injEq, nd_sz]
    constructor
    · rintro (h | h | h) <;> rcases h with h | (h | h | h) | h
      all_goals first
        | omega
        | (have := tris_in _ _ _ h; dsimp only at this; omega)
    · rintro (rfl | rfl)
      · refine .inr (.inl (.inr (.inl (.inl ?_))))
        simp only [true_and]
      · refine .inr (.inr (.inl ?_))
        simp only [true_and]
        omega
  | ll x a b d =>
    intro k
    have a0 := a.pos
    have b0 := b.pos
    have d0 := d.pos
    unfold Th
    simp only [tris, List.mem_cons, List.mem_append, Prod.mk.injEq, nd_sz]
    constructor
    · rintro (h | h | h) <;> rcases h with h | h | (h | h | h)
      all_goals first
        | omega
        | (have := tris_in _ _ _ h; dsimp only at this; omega)
    · rintro (rfl | rfl)
      · refine .inl (.inl ?_)
        simp only [true_and]
        omega
      · refine .inr (.inl (.inr (.inr (.inl ?_))))
        simp only [true_and]
  | @goL x l l' p q r h ih =>
    intro k
    have r0 := r.pos
    have hp := inr_in (rot_mem h)
    rw [← ih k]
    unfold Th
    simp only [tris, List.mem_cons, List.mem_append, Prod.mk.injEq]
    constructor
    · rintro (h | h | h) <;> rcases h with h | h | h
      all_goals first
        | omega
        | exact .inl h
        | exact .inr (.inl h)
        | exact .inr (.inr h)
        | (have := tris_in _ _ _ h; dsimp only at this; omega)
    · rintro (h | h | h)
      · exact .inl (.inr (.inl h))
      · exact .inr (.inl (.inr (.inl h)))
      · exact .inr (.inr (.inr (.inl h)))
  | @goR x r r' p q l h ih =>
    intro k
    have l0 := l.pos
    have hp := inr_in (rot_mem h)
    rw [← ih k]
    unfold Th
    simp only [tris, List.mem_cons, List.mem_append, Prod.mk.injEq]
    constructor
    · rintro (h | h | h) <;> rcases h with h | h | h
      all_goals first
        | omega
        | exact .inl h
        | exact .inr (.inl h)
        | exact .inr (.inr h)
        | (have := tris_in _ _ _ h; dsimp only at this; omega)
    · rintro (h | h | h)
      · exact .inl (.inr (.inr h))
      · exact .inr (.inl (.inr (.inr h)))
      · exact .inr (.inr (.inr (.inr h)))

-- %cut
def S__law_corners : FSpec := fun cs Q => ∃ (f : PyData) (most : Int), cs = [(f, .full), (.int most, .fz)] ∧ Feed (f, .full) ∧ 3 ≤ most ∧ most ≤ 1000 ∧ ∀ (n : Int) f', 3 ≤ n → n ≤ most → Feed (f', .full) → Q (.int n, .full) [(f', .full)]
theorem ok__law_corners : FSok 2 S__law_corners := by unfold S__law_corners; walk_at "fsok"
theorem wp__law_corners : ∀ cs Q, cs.length = 2 → S__law_corners cs Q → w__law_corners S__law_draw (fnE [0] Q) (cs.map some ++ List.replicate 0 none) := by
  rintro cs Q - ⟨f, most, rfl, hf, m0, m1, q⟩
  unfold w__law_corners
  walk_at "run"
  refine draw_k hf (by omega) (by omega) fun k f hf k0 k1 => ?_
  walk_at "run"
  exact q _ _ (by omega) (by omega) hf
def S__law_cuts : FSpec := fun cs Q => ∃ (f : PyData) (n : Int), cs = [(f, .full), (.int n, .fz)] ∧ Feed (f, .full) ∧ 3 ≤ n ∧ n ≤ 1000 ∧ ∀ (l r : Tr) (c : List Ch) f', (l.sz + r.sz + 1 : Int) = n → c.Perm (inr (.nd l r) 0) → SrtC c → c.length ≤ 10000 → Feed (f', .full) → Q (.list (c.map prc), .full) [(f', .full)]
theorem ok__law_cuts : FSok 2 S__law_cuts := by unfold S__law_cuts; walk_at "fsok"
theorem wp__law_cuts : ∀ cs Q, cs.length = 2 → S__law_cuts cs Q → w__law_cuts S__law_draw (fnE [0] Q) (cs.map some ++ List.replicate 9 none) := by
  rintro cs Q - ⟨f, n, rfl, hf, n0, n1, q⟩
  unfold w__law_cuts
  walk_at "run"
  refine draw_k hf (by omega) (by omega) fun kind f hf k0 k1 => ?_
  walk_at "run"
  refine forL_rng (fun i ts => ∃ (f : PyData) (m1 m4 : Own) (cuts stk : List Ch) (o5 o6 o7 o8 o9 o10 : Option TVal), ts = [some (f, .full), some (.int n, m1), some (.list (cuts.map prc), .full), some (.list (stk.reverse.map prc), .full), some (.int kind, m4), o5, o6, o7, o8, o9, o10] ∧ Feed (f, .full) ∧ InvC n cuts stk ∧ (stk = [] ∨ mu stk + i ≤ n - 2) ∧ (∀ p ∈ stk, 0 ≤ p.1 ∧ p.1 + 2 ≤ p.2 ∧ p.2 ≤ n - 1) ∧ (cuts.length : Int) ≤ 2 * i ∧ (stk.length : Int) ≤ 1 + i) (by omega) ⟨_, _, _, [], [(0, n - 1)], _, _, _, _, _, _, rfl, hf, inv_0 n0, .inr (by show (n - 1 - 0 - 1) + 0 + 0 ≤ n - 2; omega), by intro p hp; rw [List.mem_singleton] at hp; subst hp; dsimp only; omega, by simp, by simp⟩ ?_ ?_
  · rintro i ts i0 i1 ⟨f, m1, m4, cuts, stk, o5, o6, o7, o8, o9, o10, rfl, hf, inv, hmu, hst, hc, hs⟩ K hK
    rcases stk with _ | ⟨⟨lo, hi⟩, stk⟩
    · walk_at "run"
      intro _
      split
      · rename_i hh
        exact absurd hh (by decide)
      · walk_at "run"
        exact hK _ ⟨_, _, _, cuts, [], _, _, _, _, _, _, rfl, hf, inv, .inl rfl, by simp, by omega, by simp; omega⟩
    · have hp := hst (lo, hi) List.mem_cons_self
      have hst' : ∀ p ∈ stk, 0 ≤ p.1 ∧ p.1 + 2 ≤ p.2 ∧ p.2 ≤ n - 1 := fun p h => hst p (List.mem_cons_of_mem _ h)
      have hmu2 : (hi - lo - 1) + mu stk + i ≤ n - 2 := by
        rcases hmu with h | h
        · cases h
        · exact h
      have hs2 : (stk.length : Int) + 1 ≤ 1 + i := hs
      dsimp only at hp
      rw [List.reverse_cons, List.map_append]
      walk_at "run"
      intro _
      split
      · have hpop : PyData.list ((stk.reverse.map prc) ++ [prc (lo, hi)]) = PyData.list ((stk.reverse.map prc) ++ [.tuple [.int lo, .int hi]]) := rfl
        rw [hpop]
        walk_at "run"
        simp only [eMut, mPop]
        walk_at "run"
        refine ⟨.tuple [.int lo, .int hi], by simp, ?_⟩
        rw [List.dropLast_concat, nl_prcs]
        walk_at "run"
        refine draw_k hf (by omega) (by omega) fun w f hf w0 w1 => ?_
        walk_at "run"
        rename_i K7 hK7 KA KB hA hB
        have tail : ∀ (t : Int) m6 m7 o8 m9, lo < t → t < hi → K7 [some (f, .full), some (.int n, m1), some (.list (cuts.map prc), .full), some (.list (stk.reverse.map prc), .full), some (.int kind, m4), some (.int i, .fz), some (.int lo, m6), some (.int hi, m7), o8, some (.int t, m9), o10] := by
          clear hA hB
          intro t m6 m7 o8 m9 t0 t1
          refine k_eq hK7 ?_
          clear hK7
          have inv2 := inv_step inv t0 t1
          have hmu3 : mu (pu (t, hi) (pu (lo, t) stk)) = (hi - t - 1) + ((t - lo - 1) + mu stk) := by rw [mu_pu t1, mu_pu t0]
          have fin : ∀ m6 m7 m9 o10, K [some (f, .full), some (.int n, m1), some (.list ((cu (t, hi) (cu (lo, t) cuts)).map prc), .full), some (.list ((pu (t, hi) (pu (lo, t) stk)).reverse.map prc), .full), some (.int kind, m4), some (.int i, .fz), some (.int lo, m6), some (.int hi, m7), o8, some (.int t, m9), o10] := by
            intro m6 m7 m9 o10
            refine hK _ ⟨_, _, _, _, _, _, _, _, _, _, _, rfl, hf, inv2, .inr (by omega), ?_, ?_, ?_⟩
            · intro p hp
              unfold pu at hp
              dsimp only at hp
              have a1 : ∀ p ∈ (if 1 < t - lo then (lo, t) :: stk else stk), 0 ≤ p.1 ∧ p.1 + 2 ≤ p.2 ∧ p.2 ≤ n - 1 := by
                intro p hp
                split at hp
                · rcases List.mem_cons.mp hp with rfl | hp
                  · dsimp only; omega
                  · exact hst' p hp
                · exact hst' p hp
              split at hp
              · rcases List.mem_cons.mp hp with rfl | hp
                · dsimp only; omega
                · exact a1 p hp
              · exact a1 p hp
            · unfold cu
              split <;> split <;> (try simp only [List.length_append, List.length_cons, List.length_nil]) <;> omega
            · unfold pu
              split <;> split <;> (try simp only [List.length_append, List.length_cons, List.length_nil]) <;> omega
          unfold cu pu at fin
          dsimp only at fin
          have hcl : cuts.length < 2 ^ 24 := by omega
          have hsl : stk.reverse.length < 2 ^ 24 := by rw [List.length_reverse]; omega
          walk_at "run"
          split
          · rename_i h1
            simp only [h1, ↓reduceIte] at fin
            walk_at "run"
            split
            · rename_i h2
              simp only [h2, ↓reduceIte, List.reverse_cons, List.map_append] at fin
              walk_at "run"
              refine ⟨by simp only [List.length_append, List.length_map, List.length_cons, List.length_nil, List.length_reverse]; omega, ?_⟩
              walk_at "run"
              refine ⟨by simp only [List.length_append, List.length_map, List.length_cons, List.length_nil, List.length_reverse]; omega, ?_⟩
              walk_at "run"
              exact fin _ _ _ _
            · rename_i h2
              simp only [h2, ↓reduceIte, List.reverse_cons, List.map_append] at fin
              walk_at "run"
              exact fin _ _ _ _
          · rename_i h1
            simp only [h1, ↓reduceIte] at fin
            walk_at "run"
            split
            · rename_i h2
              simp only [h2, ↓reduceIte, List.reverse_cons, List.map_append] at fin
              walk_at "run"
              exact fin _ _ _ _
            · rename_i h2
              simp only [h2, ↓reduceIte, List.reverse_cons, List.map_append] at fin
              walk_at "run"
              exact fin _ _ _ _
        clear hK7
        split
        · walk_at "run"
          have hr : ∃ t : Int, atI [PyData.int (lo + 1), PyData.int (hi - 1), PyData.int ((lo + hi) / 2)] kind = some (.int t) ∧ lo < t ∧ t < hi := by
            have hr : kind = 0 ∨ kind = 1 ∨ kind = 2 := by omega
            rcases hr with rfl | rfl | rfl
            · exact ⟨_, rfl, by omega, by omega⟩
            · exact ⟨_, rfl, by omega, by omega⟩
            · exact ⟨_, rfl, by omega, by omega⟩
          obtain ⟨t, et, t0, t1⟩ := hr
          refine ⟨_, et, ?_⟩
          walk_at "run"
          exact tail t _ _ _ _ t0 t1
        · walk_at "run"
          exact tail _ _ _ _ _ (by omega) (by omega)
      · rename_i hh
        rw [List.length_append] at hh
        simp only [List.length_cons, List.length_nil] at hh
        omega
  · rintro ts ⟨f, m1, m4, cuts, stk, o5, o6, o7, o8, o9, o10, rfl, hf, inv, hmu, hst, hc, hs⟩
    walk_at "run"
    have he : stk = [] := by
      rcases hmu with h | h
      · exact h
      · have := mu_nn hst; omega
    subst he
    obtain ⟨l, r, hn, hperm⟩ := inv_end inv
    refine ⟨cuts.map cr, by rw [List.map_map]; rfl, ?_, ?_⟩
    · intro ns h
      obtain ⟨p, _, rfl⟩ := List.mem_map.mp h
      exact fun h => nomatch h
    intro L' p1 p2
    obtain ⟨c, hc1, rfl⟩ := cr_back p1
    rw [List.map_map]
    exact q l r c f hn (hc1.trans hperm) (List.pairwise_map.mp p2) (by rw [hc1.length_eq]; omega) hf

-- %cut
def S_is_joined : FSpec := fun cs Q => ∃ (n : Int) (c : List Ch) (i j : Int), cs = [(.int n, .fz), (.list (c.map prc), .fz), (.int i, .fz), (.int j, .fz)] ∧ c.length ≤ 10000 ∧ Q (.bool (jnd n c (if j < i then j else i) (if j > i then j else i)), .full) []
theorem ok_is_joined : FSok 4 S_is_joined := by unfold S_is_joined; walk_at "fsok"
theorem inOk_pr {a b : Int} {ds : List PyData} : inOk (.tuple [.int a, .int b]) ds := Nat.le_trans (Nat.min_le_right _ _) (by show 0 + 1 ≤ 60; decide)
theorem wp_is_joined : ∀ cs Q, cs.length = 4 → S_is_joined cs Q → w_is_joined (fnE [] Q) (cs.map some ++ List.replicate 2 none) := by
  rintro cs Q - ⟨n, c, i, j, rfl, hc, q⟩
  unfold w_is_joined
  walk_at "run"
  generalize (if j < i then j else i) = i, (if j > i then j else i) = j at q ⊢
  unfold jnd at q
  split
  · rename_i h
    rw [decide_eq_true (by simp at h; omega)] at q
    exact q
  · rename_i h
    refine ⟨by decide, inOk_pr, ?_⟩
    have := any_prc c (i, j)
    unfold prc at this
    dsimp only at this
    rw [show (fun p : Ch => PyData.tuple [.int p.1, .int p.2]) = prc from rfl] at this
    rw [this]
    have e3 : decide ((i, j) ∈ c) = decide (j - i = 1 ∨ j - i = n - 1 ∨ (i, j) ∈ c) := by
      simp at h
      rw [decide_eq_decide]
      exact ⟨fun h => .inr (.inr h), fun g => g.elim (fun g => by omega) fun g => g.elim (fun g => by omega) id⟩
    rw [e3]
    exact q

/-- a comprehension whose state may change within what is told of it -/
theorem compL_mapI {α : Type} (f : α → PyData) (g : α → Option PyData) (I : TSt → Prop) {G : WG} {Tt : WT} {We : WE} {vs : List Nat} {Q : List TVal → TSt → Prop} {ts1 : TSt} {l : List α} (hl : l.length ≤ 16777216) (h0 : I ts1)
    (hs : ∀ a ∈ l, ∀ ts, I ts → ∀ (KS : TVal → TSt → Prop) (KN : TSt → Prop), (∀ d m t, g a = some d → clean (d, m) = true → I (wipeT t vs) → KS (d, m) t) → (∀ t, g a = none → I (wipeT t vs) → KN t) → G (f a, .fz) ts fun ts1 => Tt ts1 fun b ts2 => if b = true then We ts2 KS else KN ts2)
    (q : ∀ acc : List TVal, ∀ ts, I ts → acc.map (fun x => x.fst) = l.filterMap g → acc.all clean = true → Q acc ts) : compL G Tt We vs Q (l.map f) [] ts1 := by
  have key : ∀ (l : List α) (acc : List TVal) (ts : TSt), I ts → acc.length + l.length ≤ 16777216 → acc.all clean = true →
    (∀ a ∈ l, ∀ ts, I ts → ∀ (KS : TVal → TSt → Prop) (KN : TSt → Prop), (∀ d m t, g a = some d → clean (d, m) = true → I (wipeT t vs) → KS (d, m) t) → (∀ t, g a = none → I (wipeT t vs) → KN t) → G (f a, .fz) ts fun ts1 => Tt ts1 fun b ts2 => if b = true then We ts2 KS else KN ts2) →
    (∀ acc' : List TVal, ∀ ts, I ts → acc'.map (fun x => x.fst) = acc.map (fun x => x.fst) ++ l.filterMap g → acc'.all clean = true → Q acc' ts) → compL G Tt We vs Q (l.map f) acc ts := by
    intro l
    induction l with
    | nil => intro acc ts hi _ hc _ q; exact q acc ts hi (by simp) hc
    | cons a l ih =>
      intro acc ts hi h2 hc h3 q
      rw [List.length_cons] at h2
      have h3' : ∀ b ∈ l, _ := fun b hb => h3 b (List.mem_cons_of_mem _ hb)
      refine h3 a List.mem_cons_self ts hi (fun c ts3 => acc.length < sizeLine ∧ compL G Tt We vs Q (l.map f) (acc ++ [c]) (wipeT ts3 vs)) (fun ts2 => compL G Tt We vs Q (l.map f) acc (wipeT ts2 vs)) (fun d m t hg hm ht => ?_) (fun t hg ht => ?_)
      · refine ⟨by rw [sizeLine_eq]; omega, ?_⟩
        refine ih (acc ++ [(d, m)]) _ ht (by rw [List.length_append]; simp only [List.length_cons, List.length_nil]; omega) (by rw [List.all_append, hc]; simpa using hm) h3' fun acc' ts hi e1 e2 => q acc' ts hi ?_ e2
        rw [e1, List.filterMap_cons_some hg, List.map_append, List.append_assoc]
        rfl
      · exact ih acc _ ht (by omega) hc h3' fun acc' ts hi e1 e2 => q acc' ts hi (by rw [e1, List.filterMap_cons_none hg]) e2
  exact key l [] ts1 h0 (by simpa using hl) rfl hs fun acc ts hi e1 e2 => q acc ts hi (by simpa using e1) e2

theorem eqv_prc (a b : Ch) : PyData.eqv (prc a) (prc b) = decide (a = b) := by
  obtain ⟨a1, a2⟩ := a
  obtain ⟨b1, b2⟩ := b
  unfold prc
  simp only [PyData.eqv, PyData.eqvAll]
  rw [Bool.eq_iff_iff]
  simp
theorem eqvAll_prcs : ∀ c d : List Ch, PyData.eqvAll (c.map prc) (d.map prc) = decide (c = d)
  | [], [] => rfl
  | [], _ :: _ => rfl
  | _ :: _, [] => rfl
  | p :: c, q :: d => by
    rw [List.map_cons, List.map_cons, PyData.eqvAll, eqvAll_prcs c d, eqv_prc, Bool.eq_iff_iff, Bool.and_eq_true, decide_eq_true_eq, decide_eq_true_eq, decide_eq_true_eq, List.cons.injEq]
theorem eqv_prcs (c d : List Ch) : (PyData.list (c.map prc)).eqv (.list (d.map prc)) = decide (c = d) := by
  rw [PyData.eqv]
  exact eqvAll_prcs c d
theorem depthAll_prcs : ∀ c : List Ch, PyData.depthAll (c.map prc) ≤ 1
  | [] => by simp [PyData.depthAll]
  | p :: c => by
    have := depthAll_prcs c
    rw [List.map_cons]
    unfold prc at *
    simp only [PyData.depthAll, PyData.depth]
    omega
theorem dep_prcs {c : List Ch} {d : PyData} : depOk (.list (c.map prc)) d := depOk_l (by have := depthAll_prcs c; simp only [PyData.depth]; omega)

theorem dep_pr {a b : Int} {d : PyData} : depOk (.tuple [.int a, .int b]) d := depOk_l (by simp [PyData.depth, PyData.depthAll])
theorem dep_prc {p : Ch} {d : PyData} : depOk (prc p) d := dep_pr
instance (p q : Ch) : Decidable (crs p q) := by unfold crs; infer_instance
/-- a tree's cuts -/
def Cuts (n : Int) (c : List Ch) (u v : Tr) : Prop := 3 ≤ n ∧ n ≤ 100 ∧ (u.sz + v.sz + 1 : Int) = n ∧ c.Perm (inr (.nd u v) 0) ∧ SrtC c
theorem Cuts.len {n : Int} {c : List Ch} {u v : Tr} (h : Cuts n c u v) : (c.length : Int) = n - 3 := cuts_len h.2.2.1 h.2.2.2.1
theorem Cuts.nodup {n : Int} {c : List Ch} {u v : Tr} (h : Cuts n c u v) : c.Nodup := h.2.2.2.1.nodup_iff.mpr (inr_nodup u v 0)
def jm (n : Int) (c : List Ch) (a b : Int) : Bool := jnd n c (if b < a then b else a) (if b > a then b else a)
def Thd (n : Int) (c : List Ch) (p q : Ch) : Prop := 0 ≤ p.1 ∧ p.1 < p.2 ∧ p.2 < n ∧ 0 ≤ q.1 ∧ q.1 < q.2 ∧ q.2 < n ∧ crs p q ∧ ∀ k, 0 ≤ k → k < n → ((k ≠ p.1 ∧ k ≠ p.2 ∧ jm n c p.1 k = true ∧ jm n c p.2 k = true) ↔ k = q.1 ∨ k = q.2)
theorem thd_of {n : Int} {c : List Ch} {u v t : Tr} {p q : Ch} (h : Cuts n c u v) (hr : Rot 0 (.nd u v) t p q) : Thd n c p q := by
  obtain ⟨n0, n1, hn, hc, hs⟩ := h
  have hp := inr_in (rot_mem hr)
  have hq := inr_in (rot_mem (rot_symm hr))
  have hs2 : (t.sz : Int) = u.sz + v.sz := by rw [← rot_sz hr, nd_sz]
  rw [nd_sz] at hp
  refine ⟨by omega, by omega, by omega, by omega, by omega, by omega, rot_crs hr, fun k k0 k1 => ?_⟩
  rw [← rot_th hr k]
  have hpj : Jn (.nd u v) 0 (p.1, p.2) := by
    rw [Jn_iff]
    right
    rw [chs_nd]
    exact List.mem_cons_of_mem _ (rot_mem hr)
  have cv : ∀ a b : Int, 0 ≤ a → a < b → b < n → (jnd n c a b = true ↔ Jn (.nd u v) 0 (a, b)) := fun a b h0 h1 h2 => jnd_iff hn hc h0 h1 h2
  unfold Th
  rw [tri_iff, tri_iff, tri_iff]
  unfold jm
  rcases Int.lt_trichotomy k p.1 with g | g | g
  · rw [if_pos g, if_neg (by omega), if_pos (show k < p.2 by omega), if_neg (by omega), cv _ _ k0 g (by omega), cv _ _ k0 (by omega) (by omega)]
    constructor
    · rintro ⟨-, -, a, b⟩; exact .inl ⟨g, by omega, a, b, hpj⟩
    · rintro (⟨-, -, a, b, -⟩ | ⟨a, -⟩ | ⟨-, a, -⟩)
      · exact ⟨by omega, by omega, a, b⟩
      · omega
      · omega
  · constructor
    · rintro ⟨a, -⟩; exact absurd g a
    · rintro (⟨a, -⟩ | ⟨a, -⟩ | ⟨-, a, -⟩) <;> omega
  · rw [if_neg (by omega), if_pos (show k > p.1 from g), cv _ _ (by omega) g k1]
    rcases Int.lt_trichotomy k p.2 with g2 | g2 | g2
    · rw [if_pos g2, if_neg (by omega), cv _ _ k0 g2 (by omega)]
      constructor
      · rintro ⟨-, -, a, b⟩; exact .inr (.inl ⟨g, g2, a, hpj, b⟩)
      · rintro (⟨a, -⟩ | ⟨-, -, a, -, b⟩ | ⟨-, a, -⟩)
        · omega
        · exact ⟨by omega, by omega, a, b⟩
        · omega
    · constructor
      · rintro ⟨-, a, -⟩; exact absurd g2 a
      · rintro (⟨a, -⟩ | ⟨-, a, -⟩ | ⟨-, a, -⟩) <;> omega
    · rw [if_neg (by omega), if_pos (show k > p.2 from g2), cv _ _ (by omega) g2 k1]
      constructor
      · rintro ⟨-, -, a, b⟩; exact .inr (.inr ⟨by omega, g2, hpj, a, b⟩)
      · rintro (⟨a, -⟩ | ⟨-, a, -⟩ | ⟨-, -, -, a, b⟩)
        · omega
        · omega
        · exact ⟨by omega, by omega, a, b⟩
theorem flt_eq {P : Int → Bool} {lo hi : Int} {M : List Int} (hM : M.Pairwise (· < ·)) (h : ∀ k, k ∈ M ↔ lo ≤ k ∧ k < hi ∧ P k = true) : (rngI lo hi).filter P = M := by
  have hs : ((rngI lo hi).filter P).Pairwise (· < ·) := rngI_sorted.filter _
  refine pw_ext (R := (· < ·)) (fun a b h1 h2 => by omega) hs hM ?_
  refine (List.perm_ext_iff_of_nodup (hs.imp fun h e => by omega) (hM.imp fun h e => by omega)).mpr fun k => ?_
  rw [List.mem_filter, mem_rngI, h k, and_assoc]
/-- the flipped cuts -/
theorem flip_cuts {n : Int} {c d : List Ch} {u v t : Tr} {p q : Ch} (h : Cuts n c u v) (hr : Rot 0 (.nd u v) t p q) (hd : d.Perm ((c.filter fun x => decide (x ≠ p)) ++ [q])) (hs : SrtC d) : ∃ u' v', t = .nd u' v' ∧ Cuts n d u' v' := by
  obtain ⟨-, u', v', rfl⟩ := rot_nd hr
  have hnd := h.nodup
  obtain ⟨n0, n1, hn, hc, -⟩ := h
  have hsz := rot_sz hr
  have hsz : u.sz + v.sz = u'.sz + v'.sz := hsz
  refine ⟨u', v', rfl, n0, n1, by omega, List.perm_iff_count.mpr fun z => ?_, hs⟩
  have h1 := rot_cnt hr z
  rw [hd.count_eq, List.count_append]
  have h2 := hc.count_eq z
  have hm : p ∈ c := hc.mem_iff.mpr (rot_mem hr)
  by_cases e : z = p
  · subst e
    have h3 : (c.filter fun x => decide (x ≠ z)).count z = 0 := List.count_eq_zero.mpr fun hm => by
      rw [List.mem_filter] at hm
      simp at hm
    have h4 : c.count z = 1 := by
      have h5 := List.nodup_iff_count.mp hnd z
      have h6 := List.count_pos_iff.mpr hm
      omega
    rw [List.count_singleton_self] at h1
    omega
  · have h3 : (c.filter fun x => decide (x ≠ p)).count z = c.count z := List.count_filter (by simpa using e)
    have h4 : List.count z [p] = 0 := List.count_eq_zero.mpr (by simpa using e)
    omega
def S_other_chord : FSpec := fun cs Q => ∃ (n : Int) (c : List Ch) (p q : Ch), cs = [(.int n, .fz), (.list (c.map prc), .fz), (prc p, .fz)] ∧ n ≤ 100 ∧ c.length ≤ 1000 ∧ Thd n c p q ∧ Q (prc q, .full) []
theorem ok_other_chord : FSok 3 S_other_chord := by unfold S_other_chord; walk_at "fsok"
theorem wp_other_chord : ∀ cs Q, cs.length = 3 → S_other_chord cs Q → w_other_chord S_is_joined (fnE [] Q) (cs.map some ++ List.replicate 5 none) := by
  rintro cs Q - ⟨n, c, ⟨i, j⟩, ⟨k, l⟩, rfl, n1, hc, ⟨p0, p1, p2, q0, q1, q2, -, hth⟩, q⟩
  unfold prc at *
  dsimp only at *
  unfold w_other_chord
  walk_at "run"
  rw [rngD_eq]
  refine compL_mapQ (fun k => PyData.int k) (fun k => if (decide (k ≠ i) && decide (k ≠ j)) = true then some (.int k) else none) (by rw [rngI_len]; omega) ?_ ?_
  · intro x hx KS KN k1 k2
    walk_at "run"
    repeat' split
    all_goals first | exact k1 _ _ _ (if_pos (by simp_all)) rfl rfl | exact k2 _ (if_neg (by simp_all)) rfl
  · intro acc a1 a2
    rw [fm_if] at a1
    walk_at "run"
    simp only [a1, a2, ↓reduceIte]
    refine compL_mapQ (fun k => PyData.int k) (fun k => if (jm n c i k && jm n c j k) = true then some (.int k) else none) (Nat.le_trans (List.length_filter_le _ _) (by rw [rngI_len]; omega)) ?_ ?_
    · intro x hx KS KN k1 k2
      walk_at "run"
      refine ⟨n, c, i, x, rfl, by omega, ?_⟩
      rw [show jnd n c (if x < i then x else i) (if x > i then x else i) = jm n c i x from rfl]
      cases h1 : jm n c i x with
      | false =>
        walk_at "run"
        exact k2 _ (if_neg (by rw [h1, Bool.false_and]; decide)) rfl
      | true =>
        walk_at "run"
        refine ⟨n, c, j, x, rfl, by omega, ?_⟩
        rw [show jnd n c (if x < j then x else j) (if x > j then x else j) = jm n c j x from rfl]
        cases h2 : jm n c j x with
        | false =>
          walk_at "run"
          exact k2 _ (if_neg (by rw [h1, h2]; decide)) rfl
        | true =>
          walk_at "run"
          exact k1 _ _ _ (if_pos (by rw [h1, h2]; rfl)) rfl rfl
    · intro acc b1 b2
      rw [fm_if, List.filter_filter, flt_eq (M := [k, l]) (by simp; omega) (fun x => by
        simp only [List.mem_cons, List.not_mem_nil, or_false]
        constructor
        · intro h
          have hx : 0 ≤ x ∧ x < n := by omega
          obtain ⟨g1, g2, g3, g4⟩ := (hth x hx.1 hx.2).mpr h
          exact ⟨hx.1, hx.2, by rw [g3, g4, decide_eq_true g1, decide_eq_true g2]; rfl⟩
        · rintro ⟨h0, h1, h2⟩
          simp only [Bool.and_eq_true, decide_eq_true_eq] at h2
          exact (hth x h0 h1).mp ⟨h2.2.1, h2.2.2, h2.1.1, h2.1.2⟩)] at b1
      walk_at "run"
      simp only [b1, b2, ↓reduceIte]
      walk_at "run"
      exact q
theorem nl_prc1 (p : Ch) : noLists [prc p] = true := rfl
def S_with_flip : FSpec := fun cs Q => ∃ (n : Int) (c : List Ch) (p q : Ch), cs = [(.int n, .fz), (.list (c.map prc), .fz), (prc p, .fz)] ∧ n ≤ 100 ∧ c.length ≤ 1000 ∧ Thd n c p q ∧ ∀ d : List Ch, d.Perm ((c.filter fun x => decide (x ≠ p)) ++ [q]) → SrtC d → Q (.list (d.map prc), .full) []
theorem ok_with_flip : FSok 3 S_with_flip := ⟨fun cs Q Q' k ⟨n, c, p, q, h1, h2, h3, h4, h5⟩ => ⟨n, c, p, q, h1, h2, h3, h4, fun d a b => k _ _ (h5 d a b)⟩, fun cs Q ⟨n, c, p, q, h1, _⟩ => by rw [h1]; rfl⟩
theorem wp_with_flip : ∀ cs Q, cs.length = 3 → S_with_flip cs Q → w_with_flip S_other_chord (fnE [] Q) (cs.map some ++ List.replicate 1 none) := by
  rintro cs Q - ⟨n, c, p, q', rfl, n1, hc, hth, q⟩
  unfold w_with_flip
  walk_at "run"
  refine compL_mapQ prc (fun x => if decide (x ≠ p) = true then some (prc x) else none) (by omega) ?_ ?_
  · intro x hx KS KN k1 k2
    walk_at "run"
    refine ⟨dep_prc, ?_⟩
    rw [eqv_prc]
    by_cases h : x = p
    · rw [decide_eq_true h, if_neg (by decide)]
      exact k2 _ (if_neg (by simpa using h)) rfl
    · rw [decide_eq_false h, if_pos rfl]
      exact k1 _ _ _ (if_pos (by simpa using h)) rfl rfl
  · intro acc a1 a2
    rw [fm_if] at a1
    walk_at "run"
    refine ⟨n, c, p, q', rfl, n1, hc, hth, ?_⟩
    walk_at "run"
    have al : acc.length = (c.filter fun x => decide (x ≠ p)).length := by have := congrArg List.length a1; rw [List.length_map, List.length_map] at this; exact this
    have fl := List.length_filter_le (fun x => decide (x ≠ p)) c
    refine ⟨by omega, ?_⟩
    rw [a1, show (c.filter fun x => decide (x ≠ p)).map prc ++ [prc q'] = ((c.filter fun x => decide (x ≠ p)) ++ [q']).map prc by rw [List.map_append]; rfl]
    walk_at "run"
    refine ⟨((c.filter fun x => decide (x ≠ p)) ++ [q']).map cr, by rw [List.map_map]; rfl, ?_, ?_⟩
    · intro ns h
      obtain ⟨p, _, rfl⟩ := List.mem_map.mp h
      exact fun h => nomatch h
    intro L' p1 p2
    obtain ⟨d, hd1, rfl⟩ := cr_back p1
    rw [List.map_map]
    walk_at "run"
    exact q d hd1 (List.pairwise_map.mp p2)
def S_flipped : FSpec := fun cs Q => ∃ (n : Int) (c : List Ch) (p q : Ch), cs = [(.int n, .fz), (.list (c.map prc), .fz), (prc p, .fz)] ∧ n ≤ 100 ∧ c.length ≤ 1000 ∧ p ∈ c ∧ Thd n c p q ∧ ∀ d : List Ch, d.Perm ((c.filter fun x => decide (x ≠ p)) ++ [q]) → SrtC d → Q (.list (d.map prc), .full) []
theorem ok_flipped : FSok 3 S_flipped := ⟨fun cs Q Q' k ⟨n, c, p, q, h1, h2, h3, h4, h5, h6⟩ => ⟨n, c, p, q, h1, h2, h3, h4, h5, fun d a b => k _ _ (h6 d a b)⟩, fun cs Q ⟨n, c, p, q, h1, _⟩ => by rw [h1]; rfl⟩
theorem inOk_prc {p : Ch} {ds : List PyData} : inOk (prc p) ds := inOk_pr
theorem wp_flipped : ∀ cs Q, cs.length = 3 → S_flipped cs Q → w_flipped S_with_flip (fnE [] Q) (cs.map some ++ List.replicate 0 none) := by
  rintro cs Q - ⟨n, c, p, q', rfl, n1, hc, hm, hth, q⟩
  unfold w_flipped
  walk_at "run"
  refine ⟨inOk_prc, ?_⟩
  rw [any_prc, decide_eq_true hm]
  walk_at "run"
  refine ⟨n, c, p, q', rfl, n1, hc, hth, fun d h1 h2 => ?_⟩
  walk_at "run"
  exact q d h1 h2
def S_flip_of : FSpec := fun cs Q => ∃ (n : Int) (c : List Ch) (p q : Ch), cs = [(.int n, .fz), (.list (c.map prc), .fz), (prc p, .fz)] ∧ n ≤ 100 ∧ c.length ≤ 1000 ∧ p ∈ c ∧ Thd n c p q ∧ Q (prc q, .full) []
theorem ok_flip_of : FSok 3 S_flip_of := by unfold S_flip_of; walk_at "fsok"
theorem wp_flip_of : ∀ cs Q, cs.length = 3 → S_flip_of cs Q → w_flip_of S_other_chord (fnE [] Q) (cs.map some ++ List.replicate 0 none) := by
  rintro cs Q - ⟨n, c, p, q', rfl, n1, hc, hm, hth, q⟩
  unfold w_flip_of
  walk_at "run"
  refine ⟨inOk_prc, ?_⟩
  rw [any_prc, decide_eq_true hm]
  walk_at "run"
  refine ⟨n, c, p, q', rfl, n1, hc, hth, ?_⟩
  walk_at "run"
  exact q

-- %cut
/-! ### the way to the cuts from the first corner -/
/-- some chord off the first corner whose flip has that corner -/
theorem ready_ex : ∀ (u v : Tr), (∃ p ∈ inr (.nd u v) 0, p.1 ≠ 0) → ∃ p q t, Rot 0 (.nd u v) t p q ∧ 0 < p.1 ∧ q.1 = 0
  | u, .nd b d, _ => by
    have := u.pos
    exact ⟨_, _, _, .ll 0 u b d, by dsimp only; omega, rfl⟩
  | .lf, .lf, h => by
    obtain ⟨p, hp, -⟩ := h
    cases hp
  | .nd a b, .lf, h => by
    obtain ⟨p, hp, hp0⟩ := h
    have hp' : p ∈ chs (.nd a b) 0 := by
      rw [inr_nd, List.mem_append] at hp
      rcases hp with hp | hp
      · exact hp
      · cases hp
    rw [chs_nd, List.mem_cons] at hp'
    rcases hp' with rfl | hp'
    · exact absurd rfl hp0
    · obtain ⟨p, q, t, hr, h1, h2⟩ := ready_ex a b ⟨p, hp', hp0⟩
      exact ⟨p, q, _, .goL .lf hr, h1, h2⟩
theorem rot_uniq {x : Int} {t t' t'' : Tr} {p q q' : Ch} (h : Rot x t t' p q) (h' : Rot x t t'' p q') : q = q' := by
  have h1 := rot_th h
  have h2 := rot_th h'
  have c1 := rot_crs h
  have c2 := rot_crs h'
  unfold crs at c1 c2
  have a1 := (h2 q.1).mp ((h1 q.1).mpr (.inl rfl))
  have a2 := (h2 q.2).mp ((h1 q.2).mpr (.inr rfl))
  obtain ⟨q1, q2⟩ := q
  obtain ⟨r1, r2⟩ := q'
  dsimp only at *
  rw [Prod.mk.injEq]
  omega
def off (c : List Ch) : Nat := c.countP fun p => decide (0 < p.1)
theorem off_flip {n : Int} {c d : List Ch} {u v t : Tr} {p q : Ch} (h : Cuts n c u v) (hr : Rot 0 (.nd u v) t p q) (hd : d.Perm ((c.filter fun x => decide (x ≠ p)) ++ [q])) (h1 : 0 < p.1) (h2 : q.1 = 0) : off d + 1 = off c := by
  have hnd := h.nodup
  have hm : p ∈ c := h.2.2.2.1.mem_iff.mpr (rot_mem hr)
  have hp : (p :: (c.filter fun x => decide (x ≠ p))).Perm c := by
    refine List.perm_iff_count.mpr fun z => ?_
    rw [List.count_cons]
    by_cases e : z = p
    · subst e
      have h3 : (c.filter fun x => decide (x ≠ z)).count z = 0 := List.count_eq_zero.mpr fun hm => by
        rw [List.mem_filter] at hm
        simp at hm
      have h5 := List.nodup_iff_count.mp hnd z
      have h6 := List.count_pos_iff.mpr hm
      rw [h3, if_pos (by simp)]
      omega
    · have h3 : (c.filter fun x => decide (x ≠ p)).count z = c.count z := List.count_filter (by simpa using e)
      rw [h3, if_neg (by simpa using fun g => e g.symm)]
      omega
  have e1 : decide (0 < p.1) = true := decide_eq_true h1
  have e2 : decide (0 < q.1) = false := decide_eq_false (by omega)
  unfold off
  rw [← hp.countP_eq, hd.countP_eq]
  simp only [List.countP_append, List.countP_cons, List.countP_nil, e1, e2, ↓reduceIte, Bool.false_eq_true]
  try omega
/-- the chords ready to be flipped -/
def Rdy (n : Int) (c : List Ch) (p : Ch) : Prop := 0 < p.1 ∧ ∃ q, q.1 = 0 ∧ Thd n c p q
theorem thd_uniq {n : Int} {c : List Ch} {p q q' : Ch} (h : Thd n c p q) (h' : Thd n c p q') : q = q' := by
  obtain ⟨-, -, -, a1, a2, a3, c1, h1⟩ := h
  obtain ⟨-, -, -, b1, b2, b3, c2, h2⟩ := h'
  have e1 := (h2 q.1 (by omega) (by omega)).mp ((h1 q.1 (by omega) (by omega)).mpr (.inl rfl))
  have e2 := (h2 q.2 (by omega) (by omega)).mp ((h1 q.2 (by omega) (by omega)).mpr (.inr rfl))
  obtain ⟨q1, q2⟩ := q
  obtain ⟨r1, r2⟩ := q'
  dsimp only at *
  rw [Prod.mk.injEq]
  omega
noncomputable def rdyB (n : Int) (c : List Ch) (p : Ch) : Bool := @decide (Rdy n c p) (Classical.propDecidable _)
theorem rdyB_iff {n : Int} {c : List Ch} {p : Ch} : rdyB n c p = true ↔ Rdy n c p := @decide_eq_true_iff _ (Classical.propDecidable _)
theorem rdyB_of {n : Int} {c : List Ch} {p q : Ch} (h : Thd n c p q) : rdyB n c p = (decide (0 < p.1) && decide (q.1 = 0)) := by
  rw [Bool.eq_iff_iff, rdyB_iff, Bool.and_eq_true, decide_eq_true_eq, decide_eq_true_eq]
  constructor
  · rintro ⟨h1, q', h2, h3⟩
    rw [thd_uniq h h3]
    exact ⟨h1, h2⟩
  · rintro ⟨h1, h2⟩
    exact ⟨h1, q, h2, h⟩
inductive Wy (n : Int) : List Ch → List Ch → List Ch → List Ch → Prop
  | done {c : List Ch} (h : off c = 0) : Wy n c [] [] c
  | step {c d e gone come rest : List Ch} {p q : Ch} (hr : c.filter (rdyB n c) = p :: rest) (ht : Thd n c p q) (hd : d.Perm ((c.filter fun x => decide (x ≠ p)) ++ [q])) (hs : SrtC d) (h : Wy n d gone come e) : Wy n c (p :: gone) (q :: come) e
/-- flips one after the other -/
inductive Fl (n : Int) : List Ch → List Ch → List Ch → List Ch → Prop
  | nil {c : List Ch} : Fl n c [] [] c
  | cons {c d e ps qs : List Ch} {p q : Ch} {u v u' v' : Tr} (hC : Cuts n c u v) (hr : Rot 0 (.nd u v) (.nd u' v') p q) (hD : Cuts n d u' v') (hd : d.Perm ((c.filter fun x => decide (x ≠ p)) ++ [q])) (h : Fl n d ps qs e) : Fl n c (p :: ps) (q :: qs) e
theorem off_pos {c : List Ch} (h : off c ≠ 0) : ∃ p ∈ c, 0 < p.1 := by
  unfold off at h
  obtain ⟨p, hp, h1⟩ := List.countP_pos_iff.mp (Nat.pos_of_ne_zero h)
  exact ⟨p, hp, of_decide_eq_true h1⟩
theorem rdy_ne {n : Int} {c : List Ch} {u v : Tr} (h : Cuts n c u v) (h0 : off c ≠ 0) : ∃ p rest, c.filter (rdyB n c) = p :: rest := by
  obtain ⟨x, hx, hx0⟩ := off_pos h0
  have hx' := h.2.2.2.1.mem_iff.mp hx
  obtain ⟨p, q, t, hr, h1, h2⟩ := ready_ex u v ⟨x, hx', by omega⟩
  have hp : p ∈ c.filter (rdyB n c) := List.mem_filter.mpr ⟨h.2.2.2.1.mem_iff.mpr (rot_mem hr), rdyB_iff.mpr ⟨h1, q, h2, thd_of h hr⟩⟩
  match hl : c.filter (rdyB n c) with
  | [] => rw [hl] at hp; cases hp
  | y :: ys => exact ⟨y, ys, rfl⟩
theorem cr_sort (L : List Ch) : ∃ d : List Ch, d.Perm L ∧ SrtC d := by
  induction L with
  | nil => exact ⟨[], .refl _, .nil⟩
  | cons x L ih =>
    obtain ⟨d, hd, hs⟩ := ih
    refine ⟨(d.filter fun y => lex (cr y) (cr x)) ++ x :: (d.filter fun y => !lex (cr y) (cr x)), ?_, ?_⟩
    · refine List.perm_middle.trans (.cons x (.trans ?_ hd))
      exact List.filter_append_perm _ _
    · unfold SrtC at *
      rw [List.pairwise_append, List.pairwise_cons]
      refine ⟨hs.filter _, ⟨fun y hy => ?_, hs.filter _⟩, fun a ha b hb => ?_⟩
      · have := (List.mem_filter.mp hy).2
        simpa using this
      · have ha' := (List.mem_filter.mp ha).2
        have hax : ltC a x := lex_lt.mp ha'
        rcases List.mem_cons.mp hb with rfl | hb
        · exact lex_cr hax
        · have hb' := (List.mem_filter.mp hb).2
          have hbx : ¬ ltC b x := fun h => by rw [lex_lt.mpr h] at hb'; cases hb'
          refine lex_cr ?_
          unfold ltC at *
          omega
theorem wy_ex {n : Int} : ∀ (m : Nat) {c : List Ch} {u v : Tr}, Cuts n c u v → off c = m → ∃ gone come e, Wy n c gone come e
  | 0, c, _, _, _, h => ⟨[], [], c, .done h⟩
  | m + 1, c, u, v, hC, h => by
    obtain ⟨p, rest, hf⟩ := rdy_ne hC (by omega)
    have hm : p ∈ c.filter (rdyB n c) := by rw [hf]; exact List.mem_cons_self
    obtain ⟨hpc, hrd⟩ := List.mem_filter.mp hm
    obtain ⟨t, q, hr⟩ := rot_ex (.nd u v) 0 p (hC.2.2.2.1.mem_iff.mp hpc)
    have ht := thd_of hC hr
    rw [rdyB_of ht, Bool.and_eq_true, decide_eq_true_eq, decide_eq_true_eq] at hrd
    obtain ⟨d, hd, hs⟩ := cr_sort ((c.filter fun x => decide (x ≠ p)) ++ [q])
    obtain ⟨u', v', rfl, hD⟩ := flip_cuts hC hr hd hs
    have ho := off_flip hC hr hd hrd.1 hrd.2
    obtain ⟨g, k, e, hw⟩ := wy_ex m hD (by omega)
    exact ⟨_, _, _, .step hf ht hd hs hw⟩
theorem wy_uniq {n : Int} {c g k e : List Ch} (h : Wy n c g k e) : ∀ {u v : Tr} {g' k' e' : List Ch}, Cuts n c u v → Wy n c g' k' e' → g = g' ∧ k = k' ∧ e = e' := by
  have key : ∀ {c : List Ch} {u v : Tr} {p : Ch} {rest : List Ch}, Cuts n c u v → off c = 0 → c.filter (rdyB n c) = p :: rest → False := fun {c u v p rest} hC h0 hf => by
    have hm : p ∈ c.filter (rdyB n c) := by rw [hf]; exact List.mem_cons_self
    obtain ⟨hpc, hrd⟩ := List.mem_filter.mp hm
    have := (rdyB_iff.mp hrd).1
    unfold off at h0
    have := List.countP_eq_zero.mp h0 p hpc
    simp at this
    omega
  induction h with
  | done h0 =>
    intro u v g' k' e' hC h'
    cases h' with
    | done => exact ⟨rfl, rfl, rfl⟩
    | step hf => exact (key hC h0 hf).elim
  | step hf ht hd hs hw ih =>
    intro u v g' k' e' hC h'
    cases h' with
    | done h0 => exact (key hC h0 hf).elim
    | step hf' ht' hd' hs' hw' =>
      rw [hf] at hf'
      injection hf' with e1 e2
      subst e1
      have e3 := thd_uniq ht ht'
      subst e3
      have e4 := srtC_eq hs hs' (hd.trans hd'.symm)
      subst e4
      have hm := (List.mem_filter.mp (show _ ∈ List.filter (rdyB n _) _ by rw [hf]; exact List.mem_cons_self)).1
      obtain ⟨t, q', hr⟩ := rot_ex (.nd u v) 0 _ (hC.2.2.2.1.mem_iff.mp hm)
      obtain rfl := thd_uniq ht (thd_of hC hr)
      obtain ⟨u', v', rfl, hD⟩ := flip_cuts hC hr hd hs
      obtain ⟨r1, r2, r3⟩ := ih hD hw'
      exact ⟨by rw [r1], by rw [r2], r3⟩
theorem wy_fl {n : Int} {c g k e : List Ch} (h : Wy n c g k e) : ∀ {u v : Tr}, Cuts n c u v → Fl n c g k e ∧ g.length = off c ∧ k.length = off c ∧ off e = 0 ∧ ∃ u' v', Cuts n e u' v' := by
  induction h with
  | done h0 => intro u v hC; exact ⟨.nil, h0.symm, h0.symm, h0, _, _, hC⟩
  | step hf ht hd hs hw ih =>
    intro u v hC
    have hm := List.mem_filter.mp (show _ ∈ List.filter (rdyB n _) _ by rw [hf]; exact List.mem_cons_self)
    obtain ⟨t, q', hr⟩ := rot_ex (.nd u v) 0 _ (hC.2.2.2.1.mem_iff.mp hm.1)
    obtain rfl := thd_uniq ht (thd_of hC hr)
    obtain ⟨u', v', rfl, hD⟩ := flip_cuts hC hr hd hs
    have hrd := hm.2
    rw [rdyB_of ht, Bool.and_eq_true, decide_eq_true_eq, decide_eq_true_eq] at hrd
    have ho := off_flip hC hr hd hrd.1 hrd.2
    obtain ⟨i1, i2, i3, i4, i5⟩ := ih hD
    exact ⟨.cons hC hr hD hd i1, by rw [List.length_cons]; omega, by rw [List.length_cons]; omega, i4, i5⟩
theorem fl_app {n : Int} {c d e ps qs ps' qs' : List Ch} (h : Fl n c ps qs d) (h' : Fl n d ps' qs' e) : Fl n c (ps ++ ps') (qs ++ qs') e := by
  induction h with
  | nil => exact h'
  | cons hC hr hD hd _ ih => exact .cons hC hr hD hd (ih h')
theorem flip_back {n : Int} {c d : List Ch} {u v u' v' : Tr} {p q : Ch} (hC : Cuts n c u v) (hr : Rot 0 (.nd u v) (.nd u' v') p q) (hD : Cuts n d u' v') : c.Perm ((d.filter fun x => decide (x ≠ q)) ++ [p]) := by
  obtain ⟨e, he, hs⟩ := cr_sort ((d.filter fun x => decide (x ≠ q)) ++ [p])
  obtain ⟨u2, v2, e2, h2⟩ := flip_cuts hD (rot_symm hr) he hs
  cases e2
  rw [← srtC_eq hs hC.2.2.2.2 (h2.2.2.2.1.trans hC.2.2.2.1.symm)]
  exact he
theorem fl_rev {n : Int} {c e ps qs : List Ch} (h : Fl n c ps qs e) : Fl n e qs.reverse ps.reverse c := by
  induction h with
  | nil => exact .nil
  | cons hC hr hD hd _ ih =>
    rw [List.reverse_cons, List.reverse_cons]
    exact fl_app ih (.cons hD (rot_symm hr) hC (flip_back hC hr hD) .nil)
/-- all cuts from the first corner -/
def comb : Nat → Tr
  | 0 => .lf
  | k + 1 => .nd (comb k) .lf
theorem comb_of : ∀ (u v : Tr), (∀ p ∈ inr (.nd u v) 0, p.1 = 0) → ∃ k, Tr.nd u v = comb (k + 1) ∧ u.sz = k + 1
  | u, .nd b d, h => by
    have := u.pos
    have := h (0 + u.sz, 0 + u.sz + b.sz + d.sz) (by rw [inr_nd, chs_nd]; exact List.mem_append_right _ List.mem_cons_self)
    dsimp only at this
    omega
  | .lf, .lf, _ => ⟨0, rfl, rfl⟩
  | .nd a b, .lf, h => by
    obtain ⟨k, hk, hs⟩ := comb_of a b fun p hp => h p (by rw [inr_nd, chs_nd a b]; exact List.mem_append_left _ (List.mem_cons_of_mem _ hp))
    have hb : b = .lf := by
      have : Tr.nd a b = .nd (comb k) .lf := hk
      injection this
    refine ⟨k + 1, by rw [hk]; rfl, ?_⟩
    show a.sz + b.sz = _
    rw [hs, hb]
    rfl
theorem off0_eq {n : Int} {c d : List Ch} {u v u' v' : Tr} (hC : Cuts n c u v) (hD : Cuts n d u' v') (h1 : off c = 0) (h2 : off d = 0) : c = d := by
  have al : ∀ {c : List Ch} {u v : Tr}, Cuts n c u v → off c = 0 → ∃ k, Tr.nd u v = comb (k + 1) ∧ u.sz = k + 1 := fun {c u v} hC h => comb_of u v fun p hp => by
    have hm := hC.2.2.2.1.mem_iff.mpr hp
    have h3 := List.countP_eq_zero.mp h p hm
    have h4 := inr_in hp
    simp at h3
    omega
  obtain ⟨k, e1, s1⟩ := al hC h1
  obtain ⟨k', e2, s2⟩ := al hD h2
  have v1 : v = .lf := by have : Tr.nd u v = .nd (comb k) .lf := e1; injection this
  have v2 : v' = .lf := by have : Tr.nd u' v' = .nd (comb k') .lf := e2; injection this
  have hk : k = k' := by
    have h3 := hC.2.2.1
    have h4 := hD.2.2.1
    rw [v1] at h3
    rw [v2] at h4
    have : Tr.lf.sz = 1 := rfl
    omega
  subst hk
  have e : Tr.nd u v = .nd u' v' := e1.trans e2.symm
  refine srtC_eq hC.2.2.2.2 hD.2.2.2.2 (hC.2.2.2.1.trans ?_)
  rw [e]
  exact hD.2.2.2.1.symm

-- %cut
def S__law_whole : FSpec := fun cs Q => ∃ i : Int, cs = [(.int i, .fz)] ∧ Q (.bool true, .full) []
theorem ok__law_whole : FSok 1 S__law_whole := by unfold S__law_whole; walk_at "fsok"
theorem wp__law_whole : ∀ cs Q, cs.length = 1 → S__law_whole cs Q → w__law_whole (fnE [] Q) (cs.map some ++ List.replicate 0 none) := by
  rintro cs Q - ⟨i, rfl, q⟩
  unfold w__law_whole
  walk_at "run"
  exact q
def S__law_joined : FSpec := fun cs Q => ∃ (n : Int) (c : List Ch) (a b : Int), cs = [(.int n, .fz), (.list (c.map prc), .fz), (.int a, .fz), (.int b, .fz)] ∧ 0 ≤ a ∧ a < n ∧ 0 ≤ b ∧ b < n ∧ c.length ≤ 1000 ∧ Q (.bool (jm n c a b), .full) []
theorem ok__law_joined : FSok 4 S__law_joined := by unfold S__law_joined; walk_at "fsok"
theorem wp__law_joined : ∀ cs Q, cs.length = 4 → S__law_joined cs Q → w__law_joined (fnE [] Q) (cs.map some ++ List.replicate 2 none) := by
  rintro cs Q - ⟨n, c, a, b, rfl, a0, a1, b0, b1, hc, q⟩
  unfold w__law_joined
  unfold jm at q
  have hlo : 0 ≤ (if b < a then b else a) := by split <;> omega
  have hhi : (if b > a then b else a) ≤ n - 1 := by split <;> omega
  walk_at "run"
  generalize (if b < a then b else a) = lo, (if b > a then b else a) = hi at *
  unfold jnd at q
  have tq : (hi - lo = 1 ∨ hi - lo = n - 1 ∨ (lo, hi) ∈ c) → Q (.bool true, .full) [] := fun h => by
    rw [decide_eq_true h] at q
    exact q
  have fq : ¬ hi - lo = 1 → ¬ hi - lo = n - 1 → 2 ≤ 2 ^ 24 ∧ inOk (PyData.tuple [PyData.int lo, PyData.int hi]) (List.map prc c) ∧ Q (PyData.bool ((List.map prc c).any fun y => y.eqv (PyData.tuple [PyData.int lo, PyData.int hi])), Own.full) [] := by
    intro h1 h2
    refine ⟨by decide, inOk_pr, ?_⟩
    have := any_prc c (lo, hi)
    rw [show prc (lo, hi) = PyData.tuple [PyData.int lo, PyData.int hi] from rfl] at this
    rw [this]
    have e3 : decide ((lo, hi) ∈ c) = decide (hi - lo = 1 ∨ hi - lo = n - 1 ∨ (lo, hi) ∈ c) := by
      rw [decide_eq_decide]
      exact ⟨fun h => .inr (.inr h), fun g => g.elim (fun g => absurd g h1) fun g => g.elim (fun g => absurd g h2) id⟩
    rw [e3]
    exact q
  split
  · rename_i h
    exact tq (.inl h)
  · rename_i h
    split
    · rename_i h1
      split
      · exact tq (.inr (.inl (by omega)))
      · exact fq h (by omega)
    · exact fq h (by omega)
def S__law_both : FSpec := fun cs Q => ∃ (n : Int) (c : List Ch) (p : Ch) (k : Int), cs = [(.int n, .fz), (.list (c.map prc), .fz), (prc p, .fz), (.int k, .fz)] ∧ 0 ≤ p.1 ∧ p.1 < n ∧ 0 ≤ p.2 ∧ p.2 < n ∧ 0 ≤ k ∧ k < n ∧ c.length ≤ 1000 ∧ Q (.bool (jm n c p.1 k && jm n c p.2 k), .full) []
theorem ok__law_both : FSok 4 S__law_both := by unfold S__law_both; walk_at "fsok"
theorem wp__law_both : ∀ cs Q, cs.length = 4 → S__law_both cs Q → w__law_both S__law_joined (fnE [] Q) (cs.map some ++ List.replicate 0 none) := by
  rintro cs Q - ⟨n, c, ⟨i, j⟩, k, rfl, a0, a1, b0, b1, k0, k1, hc, q⟩
  unfold w__law_both
  unfold prc at *
  dsimp only at *
  walk_at "run"
  refine ⟨n, c, i, k, rfl, a0, a1, k0, k1, hc, ?_⟩
  cases h1 : jm n c i k with
  | false =>
    rw [h1] at q
    walk_at "run"
    exact q
  | true =>
    rw [h1] at q
    walk_at "run"
    refine ⟨n, c, j, k, rfl, b0, b1, k0, k1, hc, ?_⟩
    walk_at "run"
    exact q
def S__law_chords_same : FSpec := fun cs Q => ∃ c : List Ch, cs = [(.list (c.map prc), .fz), (.list (c.map prc), .fz)] ∧ c.length ≤ 1000 ∧ Q (.bool true, .full) []
theorem ok__law_chords_same : FSok 2 S__law_chords_same := by unfold S__law_chords_same; walk_at "fsok"
theorem wp__law_chords_same : ∀ cs Q, cs.length = 2 → S__law_chords_same cs Q → w__law_chords_same S__law_whole (fnE [] Q) (cs.map some ++ List.replicate 2 none) := by
  rintro cs Q - ⟨c, rfl, hc, q⟩
  unfold w__law_chords_same
  walk_at "run"
  intro _ _
  rename_i KA KB hA hB _ _
  refine k_eq hB ?_
  clear hA hB
  walk_at "run"
  intro _
  refine ⟨by unfold rngOk; omega, ?_⟩
  refine forL_rng (lo := 0) (hi := c.length) (fun i ts => ∃ (o2 o3 : Option TVal), ts = [some (.list (c.map prc), .fz), some (.list (c.map prc), .fz), o2, o3]) (by omega) ⟨_, _, rfl⟩ ?_ ?_
  · rintro t ts t0 t1 ⟨o2, o3, rfl⟩ K hK
    obtain ⟨⟨i, j⟩, hp⟩ : ∃ p, c[t.toNat]? = some p := ⟨_, List.getElem?_eq_getElem (by omega)⟩
    have ha : atI (c.map prc) t = some (.tuple [.int i, .int j]) := by
      rw [atI_of t0, List.getElem?_map, hp]; rfl
    walk_at "run"
    refine ⟨_, ha, ?_⟩
    walk_at "run"
    refine ⟨i, rfl, ?_⟩
    walk_at "run"
    refine ⟨j, rfl, ?_⟩
    walk_at "run"
    refine ⟨_, ha, dep_pr, ?_⟩
    rw [show (PyData.tuple [PyData.int i, PyData.int j]).eqv (PyData.tuple [PyData.int i, PyData.int j]) = true from (eqv_prc (i, j) (i, j)).trans (decide_eq_true rfl), if_neg (by decide)]
    refine k_eq (by assumption) ?_
    exact hK _ ⟨_, _, rfl⟩
  · rintro ts ⟨o2, o3, rfl⟩
    walk_at "run"
    exact q
def S__law_come : FSpec := fun cs Q => ∃ (n : Int) (c : List Ch) (p q : Ch), cs = [(.int n, .fz), (.list (c.map prc), .fz), (prc p, .fz)] ∧ n ≤ 100 ∧ c.length ≤ 1000 ∧ Thd n c p q ∧ Q (prc q, .full) []
theorem ok__law_come : FSok 3 S__law_come := by unfold S__law_come; walk_at "fsok"
theorem wp__law_come : ∀ cs Q, cs.length = 3 → S__law_come cs Q → w__law_come S__law_both (fnE [] Q) (cs.map some ++ List.replicate 3 none) := by
  rintro cs Q - ⟨n, c, ⟨i, j⟩, ⟨k, l⟩, rfl, n1, hc, ⟨p0, p1, p2, q0, q1, q2, hcr, hth⟩, q⟩
  unfold crs at hcr
  dsimp only at *
  obtain ⟨m, o, hmo⟩ : ∃ m o : Int, (i < m ∧ m < j) ∧ (o < i ∨ j < o) ∧ ((m = k ∧ o = l) ∨ (m = l ∧ o = k)) := by
    rcases hcr with h | h
    · exact ⟨k, l, by omega, by omega, .inl ⟨rfl, rfl⟩⟩
    · exact ⟨l, k, by omega, by omega, .inr ⟨rfl, rfl⟩⟩
  unfold w__law_come
  unfold prc at *
  dsimp only at *
  walk_at "run"
  rw [rngD_eq]
  refine compL_mapQ (fun k => PyData.int k) (fun k => if (jm n c i k && jm n c j k) = true then some (.int k) else none) (by rw [rngI_len]; omega) ?_ ?_
  · intro x hx KS KN k1 k2
    have hx := mem_rngI.mp hx
    walk_at "run"
    refine ⟨n, c, (i, j), x, rfl, p0, by omega, by omega, p2, by omega, by omega, hc, ?_⟩
    walk_at "run"
    split
    · rename_i h
      exact k1 _ _ _ (if_pos h) rfl rfl
    · rename_i h
      exact k2 _ (if_neg h) rfl
  · intro acc a1 a2
    rw [fm_if, flt_eq (M := [m]) (by simp) (fun x => by
      simp only [List.mem_cons, List.not_mem_nil, or_false]
      constructor
      · intro h
        obtain ⟨g1, g2, g3, g4⟩ := (hth x (by omega) (by omega)).mpr (by omega)
        exact ⟨by omega, by omega, by rw [g3, g4]; rfl⟩
      · rintro ⟨h0, h1, h2⟩
        rw [Bool.and_eq_true] at h2
        have := (hth x (by omega) (by omega)).mp ⟨by omega, by omega, h2.1, h2.2⟩
        omega)] at a1
    walk_at "run"
    simp only [a1, a2, ↓reduceIte]
    rw [rngD_eq]
    refine compL_mapQ (fun k => PyData.int k) (fun k => if (decide (k < i ∨ j < k) && (jm n c i k && jm n c j k)) = true then some (.int k) else none) (by rw [rngI_len]; omega) ?_ ?_
    · intro x hx KS KN k1 k2
      have hx := mem_rngI.mp hx
      walk_at "run"
      split
      · rename_i h
        walk_at "run"
        refine ⟨n, c, (i, j), x, rfl, p0, by omega, by omega, p2, by omega, by omega, hc, ?_⟩
        walk_at "run"
        split
        · rename_i h2
          exact k1 _ _ _ (if_pos (by rw [Bool.and_eq_true, decide_eq_true_eq]; exact ⟨.inl h, h2⟩)) rfl rfl
        · rename_i h2
          exact k2 _ (if_neg (by rw [Bool.and_eq_true]; exact fun g => h2 g.2)) rfl
      · rename_i h
        split
        · rename_i h1
          walk_at "run"
          refine ⟨n, c, (i, j), x, rfl, p0, by omega, by omega, p2, by omega, by omega, hc, ?_⟩
          walk_at "run"
          split
          · rename_i h2
            exact k1 _ _ _ (if_pos (by rw [Bool.and_eq_true, decide_eq_true_eq]; exact ⟨.inr h1, h2⟩)) rfl rfl
          · rename_i h2
            exact k2 _ (if_neg (by rw [Bool.and_eq_true]; exact fun g => h2 g.2)) rfl
        · rename_i h1
          exact k2 _ (if_neg (by rw [Bool.and_eq_true, decide_eq_true_eq]; exact fun g => g.1.elim h h1)) rfl
    · intro acc b1 b2
      rw [fm_if, flt_eq (M := [o]) (by simp) (fun x => by
        simp only [List.mem_cons, List.not_mem_nil, or_false]
        constructor
        · intro h
          obtain ⟨g1, g2, g3, g4⟩ := (hth x (by omega) (by omega)).mpr (by omega)
          exact ⟨by omega, by omega, by rw [g3, g4, decide_eq_true (show x < i ∨ j < x by omega)]; rfl⟩
        · rintro ⟨h0, h1, h2⟩
          rw [Bool.and_eq_true, Bool.and_eq_true, decide_eq_true_eq] at h2
          have := (hth x (by omega) (by omega)).mp ⟨by omega, by omega, h2.2.1, h2.2.2⟩
          omega)] at b1
      walk_at "run"
      simp only [b1, b2, ↓reduceIte]
      walk_at "run"
      rw [show (if o < m then o else m) = k by split <;> omega, show (if o > m then o else m) = l by split <;> omega]
      exact q
def S__law_flipped : FSpec := fun cs Q => ∃ (n : Int) (c : List Ch) (p q : Ch), cs = [(.int n, .fz), (.list (c.map prc), .fz), (prc p, .fz)] ∧ n ≤ 100 ∧ c.length ≤ 1000 ∧ Thd n c p q ∧ ∀ d : List Ch, d.Perm ((c.filter fun x => decide (x ≠ p)) ++ [q]) → SrtC d → Q (.list (d.map prc), .full) []
theorem ok__law_flipped : FSok 3 S__law_flipped := ⟨fun cs Q Q' k ⟨n, c, p, q, h1, h2, h3, h4, h5⟩ => ⟨n, c, p, q, h1, h2, h3, h4, fun d a b => k _ _ (h5 d a b)⟩, fun cs Q ⟨n, c, p, q, h1, _⟩ => by rw [h1]; rfl⟩
theorem wp__law_flipped : ∀ cs Q, cs.length = 3 → S__law_flipped cs Q → w__law_flipped S__law_come (fnE [] Q) (cs.map some ++ List.replicate 1 none) := by
  rintro cs Q - ⟨n, c, p, q', rfl, n1, hc, hth, q⟩
  unfold w__law_flipped
  walk_at "run"
  refine compL_mapQ prc (fun x => if decide (x ≠ p) = true then some (prc x) else none) (by omega) ?_ ?_
  · intro x hx KS KN k1 k2
    walk_at "run"
    refine ⟨dep_prc, ?_⟩
    rw [eqv_prc]
    by_cases h : x = p
    · rw [decide_eq_true h, if_neg (by decide)]
      exact k2 _ (if_neg (by simpa using h)) rfl
    · rw [decide_eq_false h, if_pos rfl]
      exact k1 _ _ _ (if_pos (by simpa using h)) rfl rfl
  · intro acc a1 a2
    rw [fm_if] at a1
    walk_at "run"
    refine ⟨n, c, p, q', rfl, n1, hc, hth, ?_⟩
    walk_at "run"
    have al : acc.length = (c.filter fun x => decide (x ≠ p)).length := by have := congrArg List.length a1; rw [List.length_map, List.length_map] at this; exact this
    have fl := List.length_filter_le (fun x => decide (x ≠ p)) c
    refine ⟨by omega, ?_⟩
    rw [a1, show (c.filter fun x => decide (x ≠ p)).map prc ++ [prc q'] = ((c.filter fun x => decide (x ≠ p)) ++ [q']).map prc by rw [List.map_append]; rfl]
    walk_at "run"
    refine ⟨((c.filter fun x => decide (x ≠ p)) ++ [q']).map cr, by rw [List.map_map]; rfl, ?_, ?_⟩
    · intro ns h
      obtain ⟨p, _, rfl⟩ := List.mem_map.mp h
      exact fun h => nomatch h
    intro L' p1 p2
    obtain ⟨d, hd1, rfl⟩ := cr_back p1
    rw [List.map_map]
    walk_at "run"
    exact q d hd1 (List.pairwise_map.mp p2)

-- %cut
def Atom (d : PyData) : Prop := (∃ i, d = .int i) ∨ (∃ b, d = .bool b) ∨ d = .none
def whole : PyData → Bool
  | .int _ => true
  | _ => false

def Itm (d : PyData) : Prop := (∃ xs, d = .tuple xs ∧ xs.length ≤ 100 ∧ ∀ x ∈ xs, Atom x) ∨ (∃ xs, d = .list xs) ∨ d = .none ∨ ∃ s, d = .str s
def PapC (d : PyData) : Prop := d = .none ∨ (∃ xs, d = .tuple xs) ∨ (∃ s, d = .str s) ∨ (∃ i, d = .int i) ∨ (∃ xs, d = .list xs ∧ xs.length ≤ 1000 ∧ ∀ x ∈ xs, Itm x)
def isPr (d : PyData) : Prop := ∃ p : Ch, d = prc p
def isPrB : PyData → Bool
  | .tuple [.int _, .int _] => true
  | _ => false
theorem isPr_b {d : PyData} : isPrB d = true ↔ isPr d := by
  constructor
  · intro h
    unfold isPrB at h
    split at h
    · exact ⟨(_, _), rfl⟩
    · cases h
  · rintro ⟨p, rfl⟩
    rfl
theorem pr_all (c : List Ch) : (c.map prc).all isPrB = true := by
  rw [List.all_eq_true]
  intro x hx
  obtain ⟨p, _, rfl⟩ := List.mem_map.mp hx
  rfl
def AnyV (d : PyData) : Prop := Atom d ∨ (∃ s, d = .str s) ∨ (∃ xs, d = .list xs) ∨ ∃ xs, d = .tuple xs
def S_is_whole : FSpec := fun cs Q => ∃ d, cs = [(d, .fz)] ∧ AnyV d ∧ Q (.bool (whole d), .full) []
theorem ok_is_whole : FSok 1 S_is_whole := by unfold S_is_whole; walk_at "fsok"
theorem wp_is_whole : ∀ cs Q, cs.length = 1 → S_is_whole cs Q → w_is_whole (fnE [] Q) (cs.map some ++ List.replicate 0 none) := by
  rintro cs Q - ⟨d, rfl, ((⟨i, rfl⟩ | ⟨b, rfl⟩ | rfl) | ⟨s, rfl⟩ | ⟨xs, rfl⟩ | ⟨xs, rfl⟩), q⟩ <;> unfold w_is_whole <;> walk_at "run" <;> exact q
theorem isPr_2 {xs : List PyData} (h : xs.length = 2) : isPrB (.tuple xs) = xs.all whole := by
  obtain _ | ⟨a, _ | ⟨b, _ | ⟨_, _⟩⟩⟩ := xs
  · simp at h
  · simp at h
  · cases a <;> cases b <;> rfl
  · simp at h
theorem isPr_n {xs : List PyData} (h : xs.length ≠ 2) : isPrB (.tuple xs) = false := by
  obtain _ | ⟨a, _ | ⟨b, _ | ⟨_, _⟩⟩⟩ := xs
  · rfl
  · cases a <;> rfl
  · simp at h
  · cases a <;> cases b <;> rfl
def S_is_whole_tuple : FSpec := fun cs Q => ∃ d, cs = [(d, .fz), (.int 2, .fz)] ∧ Itm d ∧ Q (.bool (isPrB d), .full) []
theorem ok_is_whole_tuple : FSok 2 S_is_whole_tuple := by unfold S_is_whole_tuple; walk_at "fsok"
theorem wp_is_whole_tuple : ∀ cs Q, cs.length = 2 → S_is_whole_tuple cs Q → w_is_whole_tuple S_is_whole (fnE [] Q) (cs.map some ++ List.replicate 1 none) := by
  rintro cs Q - ⟨d, rfl, (⟨xs, rfl, hl, hx⟩ | ⟨xs, rfl⟩ | rfl | ⟨s, rfl⟩), q⟩
  · unfold w_is_whole_tuple
    walk_at "run"
    intro _
    split
    · rename_i h
      rw [isPr_n (by first | omega | (simp at h; omega))] at q
      walk_at "run"
      exact q
    · rename_i h
      rw [isPr_2 (by first | omega | (simp at h; omega))] at q
      walk_at "run"
      rw [← List.map_id xs]
      refine compL_mapQ (fun x => x) (fun x => some (.bool (whole x))) (by omega) ?_ ?_
      · intro x hm KS KN k1 k2
        walk_at "run"
        refine ⟨x, rfl, .inl (hx x hm), ?_⟩
        walk_at "run"
        exact k1 _ _ _ rfl rfl rfl
      · intro acc ha hc
        rw [fm_some] at ha
        walk_at "run"
        rw [ha]
        have hb : boolsOf (xs.map fun x => PyData.bool (whole x)) = some (xs.map whole) := by
          rw [show (fun x => PyData.bool (whole x)) = PyData.bool ∘ whole from rfl, ← List.map_map]
          exact boolsOf_map _
        refine ⟨_, hb, ?_⟩
        rw [List.all_map]
        exact q
  · unfold w_is_whole_tuple; walk_at "run"; exact q
  · unfold w_is_whole_tuple; walk_at "run"; exact q
  · unfold w_is_whole_tuple; walk_at "run"; exact q
def pairs : PyData → Bool
  | .list xs => xs.all isPrB
  | _ => false
def S_are_pairs : FSpec := fun cs Q => ∃ d, cs = [(d, .fz)] ∧ PapC d ∧ Q (.bool (pairs d), .full) []
theorem ok_are_pairs : FSok 1 S_are_pairs := by unfold S_are_pairs; walk_at "fsok"
theorem wp_are_pairs : ∀ cs Q, cs.length = 1 → S_are_pairs cs Q → w_are_pairs S_is_whole_tuple (fnE [] Q) (cs.map some ++ List.replicate 1 none) := by
  rintro cs Q - ⟨d, rfl, (rfl | ⟨xs, rfl⟩ | ⟨s, rfl⟩ | ⟨i, rfl⟩ | ⟨xs, rfl, hl, hx⟩), q⟩
  · unfold w_are_pairs; walk_at "run"; exact q
  · unfold w_are_pairs; walk_at "run"; exact q
  · unfold w_are_pairs; walk_at "run"; exact q
  · unfold w_are_pairs; walk_at "run"; exact q
  · unfold w_are_pairs
    walk_at "run"
    rw [← List.map_id xs]
    refine compL_mapQ (fun x => x) (fun x => some (.bool (isPrB x))) (by omega) ?_ ?_
    · intro x hm KS KN k1 k2
      walk_at "run"
      refine ⟨x, rfl, hx x hm, ?_⟩
      walk_at "run"
      exact k1 _ _ _ rfl rfl rfl
    · intro acc ha hc
      rw [fm_some] at ha
      walk_at "run"
      rw [ha]
      have hb : boolsOf (xs.map fun x => PyData.bool (isPrB x)) = some (xs.map isPrB) := by
        rw [show (fun x => PyData.bool (isPrB x)) = PyData.bool ∘ isPrB from rfl, ← List.map_map]
        exact boolsOf_map _
      refine ⟨_, hb, ?_⟩
      rw [List.all_map]
      exact q

-- %cut
theorem wFor_q {Wi : WI} {G : WG} {Wb : WS} {D : TEnds} {ts : TSt} (h : ∀ F : List PyData → TSt → Prop, (fun ds ts1 => forL G Wb D ds ts1) = F → Wi ts F) : wFor Wi G Wb D ts := h _ rfl
theorem q_eq2 {F P : List PyData → TSt → Prop} {ds : List PyData} {ts : TSt} (e : P = F) (h : P ds ts) : F ds ts := e ▸ h
local macro_rules | `(tactic| walk_at "runq") => `(tactic| repeat (first | walk_at "s1" | (with_reducible refine wFor_q ?_; intro _ _) | with_reducible refine eLc_k ?_ | with_reducible refine eLc2_k ?_ | (((with_reducible refine And.intro ?_ ?_); · walk_at "ok"); try dsimp only)))


theorem Itm_prc (p : Ch) : Itm (prc p) := .inl ⟨_, rfl, by show 2 ≤ 100; decide, fun x hx => by
  simp only [List.mem_cons, List.not_mem_nil, or_false] at hx
  rcases hx with rfl | rfl <;> exact .inl ⟨_, rfl⟩⟩
theorem Pap_prcs {c : List Ch} (h : c.length ≤ 1000) : PapC (.list (c.map prc)) := .inr (.inr (.inr (.inr ⟨_, rfl, by simpa using h, fun x hx => by obtain ⟨p, -, rfl⟩ := List.mem_map.mp hx; exact Itm_prc p⟩)))
def S__law_walked : FSpec := fun cs Q => ∃ (n : Int) (c ps qs e : List Ch), cs = [(.int n, .fz), (.list (c.map prc), .fz), (.list (ps.map prc), .full)] ∧ ps.length ≤ 1000 ∧ Fl n c ps qs e ∧ Q (.list [.list (e.map prc), .list (qs.map prc)], .top) [(.list (ps.map prc), .full)]
theorem ok__law_walked : FSok 3 S__law_walked := ⟨fun cs Q Q' k ⟨n, c, ps, qs, e, h1, h2, h3, h4⟩ => ⟨n, c, ps, qs, e, h1, h2, h3, k _ _ h4⟩, fun cs Q ⟨n, c, ps, qs, e, h1, _⟩ => by rw [h1]; rfl⟩
theorem fl_cons_inv {n : Int} {c ps qs e : List Ch} {p : Ch} (h : Fl n c (p :: ps) qs e) : ∃ (d qs' : List Ch) (q : Ch) (u v u' v' : Tr), qs = q :: qs' ∧ Cuts n c u v ∧ Rot 0 (.nd u v) (.nd u' v') p q ∧ Cuts n d u' v' ∧ d.Perm ((c.filter fun x => decide (x ≠ p)) ++ [q]) ∧ Fl n d ps qs' e := by
  cases h with
  | cons hC hr hD hd h => exact ⟨_, _, _, _, _, _, _, rfl, hC, hr, hD, hd, h⟩
theorem fl_nil_inv {n : Int} {c qs e : List Ch} (h : Fl n c [] qs e) : qs = [] ∧ e = c := by
  cases h
  exact ⟨rfl, rfl⟩
theorem drop_at {ps : List Ch} {j : Nat} {d : PyData} (h : (ps.map prc)[j]? = some d) : ∃ p, ps.drop j = p :: ps.drop (j + 1) ∧ d = prc p := by
  rw [List.getElem?_map, Option.map_eq_some_iff] at h
  obtain ⟨p, hp, rfl⟩ := h
  obtain ⟨hl, rfl⟩ := List.getElem?_eq_some_iff.mp hp
  exact ⟨_, List.drop_eq_getElem_cons hl, rfl⟩
theorem wp__law_walked : ∀ cs Q, cs.length = 3 → S__law_walked cs Q → w__law_walked S__law_come S__law_flipped (fnE [2] Q) (cs.map some ++ List.replicate 3 none) := by
  rintro cs Q - ⟨n, c, ps, qs, e, rfl, hl, hF, q⟩
  unfold w__law_walked
  walk_at "run"
  refine ⟨nl_prcs _, ?_⟩
  refine forL_inv (fun j ts => ∃ (m0 m1 m3 : Own) (c' rest qs1 qs2 : List Ch) (o5 : Option TVal), ts = [some (.int n, m0), some (.list (c.map prc), m1), none, some (.list (c'.map prc), m3), some (.list (qs1.map prc), .full), o5] ∧ ps.drop j = rest ∧ qs = qs1 ++ qs2 ∧ qs1.length = j ∧ Fl n c' rest qs2 e) ⟨_, _, _, c, ps, [], qs, _, rfl, rfl, rfl, rfl, hF⟩ ?_ ?_
  · rintro j d ts hd ⟨m0, m1, m3, c', rest, qs1, qs2, o5, rfl, hr, hq, hj, hF⟩ K hK
    obtain ⟨p, hdr, rfl⟩ := drop_at hd
    rw [← hr, hdr] at hF
    obtain ⟨d', qs', q1, u, v, u', v', rfl, hC, hrot, hD, hd', hF'⟩ := fl_cons_inv hF
    have hm : p ∈ c' := hC.2.2.2.1.mem_iff.mpr (rot_mem hrot)
    have hcl := hC.len
    have n1 := hC.2.1
    have hjl : j < ps.length := by have := (List.getElem?_eq_some_iff.mp hd).1; rwa [List.length_map] at this
    walk_at "run"
    refine ⟨inOk_prc, ?_⟩
    rw [any_prc, decide_eq_true hm]
    walk_at "run"
    refine ⟨n, c', p, q1, rfl, n1, by omega, thd_of hC hrot, ?_⟩
    walk_at "run"
    refine ⟨n, c', p, q1, rfl, n1, by omega, thd_of hC hrot, fun d2 h1 h2 => ?_⟩
    obtain rfl : d2 = d' := srtC_eq h2 hD.2.2.2.2 (h1.trans hd'.symm)
    walk_at "run"
    exact hK _ ⟨_, _, _, d2, _, qs1 ++ [q1], qs', _, by rw [List.map_append]; rfl, rfl, by rw [hq, List.append_assoc]; rfl, by rw [List.length_append, hj]; rfl, hF'⟩
  · rintro ts ⟨m0, m1, m3, c', rest, qs1, qs2, o5, rfl, hr, hq, hj, hF⟩
    rw [← hr, List.length_map, List.drop_length] at hF
    obtain ⟨rfl, rfl⟩ := fl_nil_inv hF
    rw [List.append_nil] at hq
    subst hq
    refine ⟨rfl, ?_⟩
    walk_at "run"
    exact q
def S_shows_flips : FSpec := fun cs Q => ∃ (n : Int) (c ps qs e : List Ch), cs = [(.int n, .fz), (.list (c.map prc), .fz), (.list (e.map prc), .fz), (.list (ps.map prc), .fz)] ∧ ps.length ≤ 1000 ∧ Fl n c ps qs e ∧ Q (.bool true, .full) []
theorem ok_shows_flips : FSok 4 S_shows_flips := by unfold S_shows_flips; walk_at "fsok"
theorem wp_shows_flips : ∀ cs Q, cs.length = 4 → S_shows_flips cs Q → w_shows_flips S_are_pairs S_with_flip (fnE [] Q) (cs.map some ++ List.replicate 2 none) := by
  rintro cs Q - ⟨n, c, ps, qs, e, rfl, hl, hF, q⟩
  unfold w_shows_flips
  walk_at "runq"
  refine ⟨_, rfl, Pap_prcs hl, ?_⟩
  rw [show pairs (.list (ps.map prc)) = true from pr_all ps]
  walk_at "runq"
  rw [nl_prcs]
  walk_at "runq"
  refine q_eq2 (by assumption) ?_
  show forL _ _ _ _ _
  refine forL_inv (fun j ts => ∃ (m0 m1 m2 m3 m4 : Own) (c' rest qs2 : List Ch) (o5 : Option TVal), ts = [some (.int n, m0), some (.list (c.map prc), m1), some (.list (e.map prc), m2), some (.list (ps.map prc), m3), some (.list (c'.map prc), m4), o5] ∧ ps.drop j = rest ∧ Fl n c' rest qs2 e) ⟨_, _, _, _, _, c, ps, qs, _, rfl, rfl, hF⟩ ?_ ?_
  · rintro j d ts hd ⟨m0, m1, m2, m3, m4, c', rest, qs2, o5, rfl, hr, hF⟩ K hK
    obtain ⟨p, hdr, rfl⟩ := drop_at hd
    rw [← hr, hdr] at hF
    obtain ⟨d', qs', q1, u, v, u', v', rfl, hC, hrot, hD, hd', hF'⟩ := fl_cons_inv hF
    have hm : p ∈ c' := hC.2.2.2.1.mem_iff.mpr (rot_mem hrot)
    have hcl := hC.len
    have n1 := hC.2.1
    walk_at "runq"
    refine ⟨inOk_prc, ?_⟩
    rw [any_prc, decide_eq_true hm]
    walk_at "runq"
    refine ⟨n, c', p, q1, rfl, n1, by omega, thd_of hC hrot, fun d2 h1 h2 => ?_⟩
    obtain rfl : d2 = d' := srtC_eq h2 hD.2.2.2.2 (h1.trans hd'.symm)
    walk_at "runq"
    exact hK _ ⟨_, _, _, _, _, d2, _, qs', _, rfl, rfl, hF'⟩
  · rintro ts ⟨m0, m1, m2, m3, m4, c', rest, qs2, o5, rfl, hr, hF⟩
    rw [← hr, List.length_map, List.drop_length] at hF
    obtain ⟨rfl, rfl⟩ := fl_nil_inv hF
    walk_at "runq"
    refine ⟨dep_prcs, ?_⟩
    rw [eqv_prcs, decide_eq_true rfl]
    exact q
def S__law_yes : FSpec := fun cs Q => cs = [(.bool true, .fz), (.bool true, .fz)] ∧ Q (.bool true, .full) []
theorem ok__law_yes : FSok 2 S__law_yes := by unfold S__law_yes; walk_at "fsok"
theorem wp__law_yes : ∀ cs Q, cs.length = 2 → S__law_yes cs Q → w__law_yes (fnE [] Q) (cs.map some ++ List.replicate 0 none) := by
  rintro cs Q - ⟨rfl, q⟩
  unfold w__law_yes
  walk_at "runq"
  refine ⟨depOk_l (Nat.zero_le _), ?_⟩
  rw [show (PyData.bool true).eqv (.bool true) = true from by decide +kernel]
  exact q
theorem off_le (c : List Ch) : off c ≤ c.length := List.countP_le_length
theorem wy_0 {n : Int} {c g k e : List Ch} (h : Wy n c g k e) {u v : Tr} (hC : Cuts n c u v) (h0 : off c = 0) : g = [] ∧ k = [] ∧ e = c := by
  obtain ⟨rfl, rfl, rfl⟩ := wy_uniq (.done h0) hC h
  exact ⟨rfl, rfl, rfl⟩
theorem wy_s {n : Int} {c g k e : List Ch} (h : Wy n c g k e) {u v : Tr} (hC : Cuts n c u v) (h0 : off c ≠ 0) : ∃ (p q : Ch) (d rest g' k' : List Ch) (u' v' : Tr), g = p :: g' ∧ k = q :: k' ∧ c.filter (rdyB n c) = p :: rest ∧ p ∈ c ∧ Thd n c p q ∧ d.Perm ((c.filter fun x => decide (x ≠ p)) ++ [q]) ∧ SrtC d ∧ Cuts n d u' v' ∧ off d + 1 = off c ∧ Wy n d g' k' e := by
  cases h with
  | done h => exact absurd h h0
  | step hf ht hd hs hw =>
    have hm := List.mem_filter.mp (show _ ∈ List.filter (rdyB n _) _ by rw [hf]; exact List.mem_cons_self)
    obtain ⟨t, q', hr⟩ := rot_ex (.nd u v) 0 _ (hC.2.2.2.1.mem_iff.mp hm.1)
    obtain rfl := thd_uniq ht (thd_of hC hr)
    obtain ⟨u', v', rfl, hD⟩ := flip_cuts hC hr hd hs
    have hrd := hm.2
    rw [rdyB_of ht, Bool.and_eq_true, decide_eq_true_eq, decide_eq_true_eq] at hrd
    exact ⟨_, _, _, _, _, _, _, _, rfl, rfl, hf, hm.1, ht, hd, hs, hD, off_flip hC hr hd hrd.1 hrd.2, hw⟩
theorem rdy_nil {n : Int} {c : List Ch} (h0 : off c = 0) : c.filter (rdyB n c) = [] := by
  rw [List.filter_eq_nil_iff]
  intro p hp h
  have := (rdyB_iff.mp h).1
  unfold off at h0
  have := List.countP_eq_zero.mp h0 p hp
  simp at this
  omega
def S__law_way : FSpec := fun cs Q => ∃ (n : Int) (c : List Ch) (u v : Tr), cs = [(.int n, .fz), (.list (c.map prc), .fz)] ∧ Cuts n c u v ∧ ∀ g k e, Wy n c g k e → Q (.list [.list (g.map prc), .list (k.map prc)], .top) []
theorem ok__law_way : FSok 2 S__law_way := ⟨fun cs Q Q' k ⟨n, c, u, v, h1, h2, h3⟩ => ⟨n, c, u, v, h1, h2, fun a b d h => k _ _ (h3 a b d h)⟩, fun cs Q ⟨n, c, u, v, h1, _⟩ => by rw [h1]; rfl⟩
theorem wp__law_way : ∀ cs Q, cs.length = 2 → S__law_way cs Q → w__law_way S__law_come S__law_flipped (fnE [] Q) (cs.map some ++ List.replicate 6 none) := by
  rintro cs Q - ⟨n, c, u, v, rfl, hC, q⟩
  obtain ⟨g, k, e, hw⟩ := wy_ex _ hC rfl
  have q := q g k e hw
  obtain ⟨n0, n1, -⟩ := id hC
  have hl := hC.len
  have ho := off_le c
  unfold w__law_way
  walk_at "run"
  refine forL_rng (lo := 0) (hi := n) (fun i ts => ∃ (m0 m1 m4 : Own) (g1 g2 k1 k2 c' : List Ch) (u' v' : Tr) (o5 o6 o7 : Option TVal), ts = [some (.int n, m0), some (.list (c.map prc), m1), some (.list (g1.map prc), .full), some (.list (k1.map prc), .full), some (.list (c'.map prc), m4), o5, o6, o7] ∧ g = g1 ++ g2 ∧ k = k1 ++ k2 ∧ Wy n c' g2 k2 e ∧ Cuts n c' u' v' ∧ (off c' = 0 ∨ (off c' : Int) + i ≤ n) ∧ (g1.length : Int) ≤ i ∧ (k1.length : Int) ≤ i) (by omega) ⟨_, _, _, [], g, [], k, c, u, v, _, _, _, rfl, rfl, rfl, hw, hC, .inr (by omega), by simp, by simp⟩ ?_ ?_
  · rintro i ts i0 i1 ⟨m0, m1, m4, g1, g2, k1, k2, c', u', v', o5, o6, o7, rfl, hg, hk, hw, hC', hoff, hg1, hk1⟩ K hK
    have hl' := hC'.len
    walk_at "run"
    refine compL_mapQ prc (fun p => if rdyB n c' p = true then some (prc p) else none) (by omega) ?_ ?_
    · rintro ⟨p1, p2⟩ hp KS KN k1' k2'
      obtain ⟨t, ⟨q1, q2⟩, hr⟩ := rot_ex (.nd u' v') 0 _ (hC'.2.2.2.1.mem_iff.mp hp)
      have ht := thd_of hC' hr
      have hb := rdyB_of ht
      unfold prc at *
      dsimp only at *
      walk_at "run"
      split
      · rename_i h
        walk_at "run"
        refine ⟨n, c', (p1, p2), (q1, q2), rfl, n1, by omega, ht, ?_⟩
        unfold prc at *
        dsimp only at *
        walk_at "run"
        split
        · rename_i h2
          exact k1' _ _ _ (if_pos (by rw [hb]; simp only [Bool.and_eq_true, decide_eq_true_eq]; first | omega | (simp at h2; omega))) rfl rfl
        · rename_i h2
          exact k2' _ (if_neg (by rw [hb]; simp only [Bool.and_eq_true, decide_eq_true_eq]; first | omega | (simp at h2; omega))) rfl
      · rename_i h
        exact k2' _ (if_neg (by rw [hb]; simp only [Bool.and_eq_true, decide_eq_true_eq]; omega)) rfl
    · intro acc a1 a2
      rw [fm_if] at a1
      have al : acc.length = (c'.filter (rdyB n c')).length := by have := congrArg List.length a1; rwa [List.length_map, List.length_map] at this
      walk_at "run"
      rw [a1]
      intro _
      rename_i KA KB hA hB _
      by_cases h0 : off c' = 0
      · rw [if_neg (by rw [al, rdy_nil h0]; decide)]
        refine k_eq hB ?_
        exact hK _ ⟨_, _, _, g1, g2, k1, k2, c', _, _, _, _, _, rfl, hg, hk, hw, hC', .inl h0, by omega, by omega⟩
      · obtain ⟨p, q', d, rest, g', k', u2, v2, rfl, rfl, hf, hpc, ht, hd, hs, hD, ho', hw'⟩ := wy_s hw hC' h0
        rw [hf] at al ⊢
        rw [if_pos (by rw [al, List.length_cons]; omega)]
        refine k_eq hA ?_
        clear hA hB
        walk_at "run"
        refine ⟨.inr rfl, by omega, ?_⟩
        simp only [show noList (prc p) = true from rfl, a2, ↓reduceIte]
        walk_at "run"
        refine ⟨.inr rfl, ?_⟩
        refine ⟨n, c', p, q', rfl, n1, by omega, ht, ?_⟩
        walk_at "run"
        refine ⟨.inr rfl, ?_⟩
        refine ⟨n, c', p, q', rfl, n1, by omega, ht, fun d2 h1 h2 => ?_⟩
        obtain rfl : d2 = d := srtC_eq h2 hs (h1.trans hd.symm)
        walk_at "run"
        exact hK _ ⟨_, _, _, g1 ++ [p], g', k1 ++ [q'], k', d2, u2, v2, _, _, _, by rw [List.map_append, List.map_append]; rfl, by rw [hg, List.append_assoc]; rfl, by rw [hk, List.append_assoc]; rfl, hw', hD, .inr (by omega), by rw [List.length_append, List.length_singleton]; omega, by rw [List.length_append, List.length_singleton]; omega⟩
  · rintro ts ⟨m0, m1, m4, g1, g2, k1, k2, c', u', v', o5, o6, o7, rfl, hg, hk, hw, hC', hoff, hg1, hk1⟩
    obtain ⟨rfl, rfl, -⟩ := wy_0 hw hC' (by omega)
    rw [List.append_nil] at hg hk
    subst hg hk
    walk_at "run"
    exact q
def S_way_to_corner : FSpec := fun cs Q => ∃ (n : Int) (c : List Ch) (u v : Tr), cs = [(.int n, .fz), (.list (c.map prc), .fz)] ∧ Cuts n c u v ∧ ∀ g k e, Wy n c g k e → Q (.tuple [.list (g.map prc), .list (k.map prc)], .full) []
theorem ok_way_to_corner : FSok 2 S_way_to_corner := ⟨fun cs Q Q' k ⟨n, c, u, v, h1, h2, h3⟩ => ⟨n, c, u, v, h1, h2, fun a b d h => k _ _ (h3 a b d h)⟩, fun cs Q ⟨n, c, u, v, h1, _⟩ => by rw [h1]; rfl⟩
theorem wp_way_to_corner : ∀ cs Q, cs.length = 2 → S_way_to_corner cs Q → w_way_to_corner S_other_chord S_with_flip (fnE [] Q) (cs.map some ++ List.replicate 5 none) := by
  rintro cs Q - ⟨n, c, u, v, rfl, hC, q⟩
  obtain ⟨g, k, e, hw⟩ := wy_ex _ hC rfl
  have q := q g k e hw
  obtain ⟨n0, n1, -⟩ := id hC
  have hl := hC.len
  have ho := off_le c
  unfold w_way_to_corner
  walk_at "run"
  rw [nl_prcs]
  walk_at "run"
  refine while_inv (fun d ts => ∃ (m0 m1 m4 : Own) (g1 g2 k1 k2 c' : List Ch) (u' v' : Tr) (o5 o6 : Option TVal), ts = [some (.int n, m0), some (.list (c.map prc), m1), some (.list (g1.map prc), .full), some (.list (k1.map prc), .full), some (.list (c'.map prc), m4), o5, o6] ∧ g = g1 ++ g2 ∧ k = k1 ++ k2 ∧ Wy n c' g2 k2 e ∧ Cuts n c' u' v' ∧ off c' = d ∧ g1.length + off c' ≤ 1000 ∧ k1.length + off c' ≤ 1000) (off c) ⟨_, _, _, [], g, [], k, c, u, v, _, _, rfl, rfl, rfl, hw, hC, rfl, by simp; omega, by simp; omega⟩ ?_
  rintro d ts ⟨m0, m1, m4, g1, g2, k1, k2, c', u', v', o5, o6, rfl, hg, hk, hw, hC', rfl, hg1, hk1⟩ KB KD hB hD
  have hl' := hC'.len
  walk_at "run"
  refine compL_mapQ prc (fun p => some (.bool (decide (0 < p.1)))) (by omega) ?_ ?_
  · rintro ⟨p1, p2⟩ hp KS KN k1' k2'
    unfold prc at *
    walk_at "run"
    exact k1' _ _ _ rfl rfl rfl
  · intro acc a1 a2
    rw [fm_some] at a1
    have hb : boolsOf (acc.map fun x => x.1) = some (c'.map fun p : Ch => decide (0 < p.1)) := by
      rw [a1, show (fun p : Ch => PyData.bool (decide (0 < p.1))) = PyData.bool ∘ fun p : Ch => decide (0 < p.1) from rfl, ← List.map_map]
      exact boolsOf_map _
    refine ⟨_, hb, ?_⟩
    by_cases h0 : off c' = 0
    · rw [if_neg (fun h => by
        obtain ⟨b, hb, eb⟩ := List.any_eq_true.mp h
        obtain ⟨p, hp, rfl⟩ := List.mem_map.mp hb
        unfold off at h0
        have := List.countP_eq_zero.mp h0 p hp
        exact this eb)]
      refine hD _ ?_
      obtain ⟨rfl, rfl, -⟩ := wy_0 hw hC' h0
      rw [List.append_nil] at hg hk
      subst hg hk
      walk_at "run"
      exact q
    · obtain ⟨x, hx, hx0⟩ := off_pos h0
      rw [if_pos (List.any_eq_true.mpr ⟨true, List.mem_map.mpr ⟨x, hx, decide_eq_true hx0⟩, rfl⟩)]
      refine hB _ fun K hK => ?_
      walk_at "run"
      refine compL_mapQ prc (fun p => if rdyB n c' p = true then some (prc p) else none) (by omega) ?_ ?_
      · rintro ⟨p1, p2⟩ hp KS KN k1' k2'
        obtain ⟨t, ⟨q1, q2⟩, hr⟩ := rot_ex (.nd u' v') 0 _ (hC'.2.2.2.1.mem_iff.mp hp)
        have ht := thd_of hC' hr
        have hb := rdyB_of ht
        unfold prc at *
        dsimp only at *
        walk_at "run"
        split
        · rename_i h
          walk_at "run"
          refine ⟨n, c', (p1, p2), (q1, q2), rfl, n1, by omega, ht, ?_⟩
          unfold prc at *
          dsimp only at *
          walk_at "run"
          split
          · rename_i h2
            exact k1' _ _ _ (if_pos (by rw [hb]; simp only [Bool.and_eq_true, decide_eq_true_eq]; first | omega | (simp at h2; omega))) rfl rfl
          · rename_i h2
            exact k2' _ (if_neg (by rw [hb]; simp only [Bool.and_eq_true, decide_eq_true_eq]; first | omega | (simp at h2; omega))) rfl
        · rename_i h
          exact k2' _ (if_neg (by rw [hb]; simp only [Bool.and_eq_true, decide_eq_true_eq]; omega)) rfl
      · intro acc a1 a2
        rw [fm_if] at a1
        have al : acc.length = (c'.filter (rdyB n c')).length := by have := congrArg List.length a1; rwa [List.length_map, List.length_map] at this
        walk_at "run"
        rw [a1]
        obtain ⟨p, q', d, rest, g', k', u2, v2, rfl, rfl, hf, hpc, ht, hd, hs, hDD, ho', hw'⟩ := wy_s hw hC' h0
        rw [hf] at al ⊢
        walk_at "run"
        refine ⟨.inr rfl, by omega, ?_⟩
        simp only [show noList (prc p) = true from rfl, a2, ↓reduceIte]
        walk_at "run"
        refine ⟨.inr rfl, ?_⟩
        refine ⟨n, c', p, q', rfl, n1, by omega, ht, ?_⟩
        walk_at "run"
        refine ⟨.inr rfl, ?_⟩
        refine ⟨n, c', p, q', rfl, n1, by omega, ht, fun d2 h1 h2 => ?_⟩
        obtain rfl : d2 = d := srtC_eq h2 hs (h1.trans hd.symm)
        walk_at "run"
        exact hK _ _ (show off d2 < off c' by omega) ⟨_, _, _, g1 ++ [p], g', k1 ++ [q'], k', d2, u2, v2, _, _, by rw [List.map_append, List.map_append]; rfl, by rw [hg, List.append_assoc]; rfl, by rw [hk, List.append_assoc]; rfl, hw', hDD, rfl, by rw [List.length_append, List.length_singleton]; omega, by rw [List.length_append, List.length_singleton]; omega⟩
def S_lead_over : FSpec := fun cs Q => ∃ (n : Int) (c d : List Ch) (u v u' v' : Tr), cs = [(.int n, .fz), (.list (c.map prc), .fz), (.list (d.map prc), .fz)] ∧ Cuts n c u v ∧ Cuts n d u' v' ∧ ∀ g1 k1 e1 g2 k2 e2, Wy n c g1 k1 e1 → Wy n d g2 k2 e2 → Q (.list ((g1 ++ k2.reverse).map prc), .full) []
theorem ok_lead_over : FSok 3 S_lead_over := ⟨fun cs Q Q' k ⟨n, c, d, u, v, u', v', h1, h2, h3, h4⟩ => ⟨n, c, d, u, v, u', v', h1, h2, h3, fun a b x y z w h h' => k _ _ (h4 a b x y z w h h')⟩, fun cs Q ⟨n, c, d, u, v, u', v', h1, _⟩ => by rw [h1]; rfl⟩
theorem wy_len {n : Int} {c g k e : List Ch} {u v : Tr} (h : Wy n c g k e) (hC : Cuts n c u v) : (g.length : Int) ≤ n ∧ (k.length : Int) ≤ n := by
  obtain ⟨-, h1, h2, -⟩ := wy_fl h hC
  have := off_le c
  have := hC.len
  omega
theorem wp_lead_over : ∀ cs Q, cs.length = 3 → S_lead_over cs Q → w_lead_over S_way_to_corner (fnE [] Q) (cs.map some ++ List.replicate 3 none) := by
  rintro cs Q - ⟨n, c, d, u, v, u', v', rfl, hC, hD, q⟩
  have n1 := hC.2.1
  unfold w_lead_over
  walk_at "run"
  refine ⟨n, c, u, v, rfl, hC, fun g1 k1 e1 hw1 => ?_⟩
  have l1 := wy_len hw1 hC
  walk_at "run"
  refine ⟨n, d, u', v', rfl, hD, fun g2 k2 e2 hw2 => ?_⟩
  have l2 := wy_len hw2 hD
  have q := q g1 k1 e1 g2 k2 e2 hw1 hw2
  walk_at "run"
  refine ⟨by rw [nl_prcs, Bool.or_true], by rw [nl_prcs, Bool.or_true], by rw [List.length_reverse]; omega, ?_⟩
  rw [nl_prcs, nl_prcs, ← List.map_append]
  exact q

-- %cut
local macro_rules | `(tactic| walk_at "runq") => `(tactic| repeat (first | walk_at "s1" | (with_reducible refine wFor_q ?_; intro _ _) | with_reducible refine eLc_k ?_ | with_reducible refine eLc2_k ?_ | (((with_reducible refine And.intro ?_ ?_); · walk_at "ok"); try dsimp only)))

theorem ite_both {P : Prop} {d : Decidable P} {A B : Prop} (a : A) (b : B) : @ite _ P d A B := by
  by_cases h : P
  · rw [if_pos h]; exact a
  · rw [if_neg h]; exact b
theorem plainAll_prcs : ∀ c : List Ch, PyData.plainAll (c.map prc) = true
  | [] => rfl
  | _ :: c => plainAll_prcs c
theorem eqv_two (c d : List Ch) : (PyData.list [.list (c.map prc), .list (d.map prc)]).eqv (.list [.list (c.map prc), .list (d.map prc)]) = true := eqv_self (by simp only [PyData.plain, PyData.plainAll, plainAll_prcs, Bool.and_true])
theorem dep_two {c d : List Ch} {x : PyData} : depOk (.list [.list (c.map prc), .list (d.map prc)]) x := depOk_l (by have := depthAll_prcs c; have := depthAll_prcs d; simp only [PyData.depth, PyData.depthAll]; omega)
def S__law_lead_right : FSpec := fun cs Q => ∃ (n : Int) (c d : List Ch) (u v u' v' : Tr), cs = [(.int n, .fz), (.list (c.map prc), .fz), (.list (d.map prc), .fz)] ∧ Cuts n c u v ∧ Cuts n d u' v' ∧ Q (.bool true, .full) []
theorem ok__law_lead_right : FSok 3 S__law_lead_right := by unfold S__law_lead_right; walk_at "fsok"
theorem wp__law_lead_right : ∀ cs Q, cs.length = 3 → S__law_lead_right cs Q → w__law_lead_right S__law_way S_lead_over S__law_chords_same S__law_walked S__law_yes S_shows_flips S_flip_of S_flipped (fnE [] Q) (cs.map some ++ List.replicate 8 none) := by
  rintro cs Q - ⟨n, c, d, u, v, u', v', rfl, hC, hD, fin⟩
  have n1 := hC.2.1
  have lc := hC.len
  have ld := hD.len
  unfold w__law_lead_right
  walk_at "runq"
  refine ⟨n, c, u, v, rfl, hC, fun g1 k1 e1 hw1 => ?_⟩
  obtain ⟨f1, a1, b1, z1, u1, v1, hE1⟩ := wy_fl hw1 hC
  have oc := off_le c
  walk_at "runq"
  refine ⟨n, d, u', v', rfl, hD, fun g2 k2 e2 hw2 => ?_⟩
  obtain ⟨f2, a2, b2, z2, u2, v2, hE2⟩ := wy_fl hw2 hD
  have od := off_le d
  obtain rfl := off0_eq hE1 hE2 z1 z2
  have hF : Fl n c (g1 ++ k2.reverse) (k1 ++ g2.reverse) d := fl_app f1 (fl_rev f2)
  have hT : (g1 ++ k2.reverse).length = off c + off d := by rw [List.length_append, List.length_reverse, a1, b2]
  walk_at "runq"
  refine ⟨by rw [List.length_reverse]; omega, ?_⟩
  rw [nl_prcs, nl_prcs, ← List.map_append]
  have hLO : ∀ a b x a' b' x', Wy n c a b x → Wy n d a' b' x' → (a ++ b'.reverse) = g1 ++ k2.reverse := fun a b x a' b' x' h h' => by
    obtain ⟨rfl, -, -⟩ := wy_uniq hw1 hC h
    obtain ⟨-, rfl, -⟩ := wy_uniq hw2 hD h'
    rfl
  have hS : (k1 ++ g2.reverse).length = off c + off d := by rw [List.length_append, List.length_reverse, b1, a2]
  generalize g1 ++ k2.reverse = T at *
  generalize k1 ++ g2.reverse = S at *
  walk_at "runq"
  refine ⟨n, c, d, u, v, u', v', rfl, hC, hD, fun a b x a' b' x' h h' => ?_⟩
  rw [hLO a b x a' b' x' h h']
  walk_at "runq"
  refine ⟨T, rfl, by omega, ?_⟩
  walk_at "runq"
  refine ⟨dep_two, ?_⟩
  rw [eqv_two, if_neg (by decide)]
  walk_at "runq"
  refine ⟨_, _, _, rfl, rfl, rfl, by decide, by decide, by decide, ?_⟩
  refine ⟨n, c, T, S, d, rfl, by omega, hF, ?_⟩
  refine ⟨_, rfl, ?_⟩
  walk_at "runq"
  refine ⟨dep_prcs, ?_⟩
  rw [eqv_prcs, decide_eq_true rfl, if_neg (by decide)]
  walk_at "runq"
  intro _
  rename_i KA KB hA hB _
  walk_at "runq"
  rw [← List.map_append]
  refine compL_mapQ prc (fun p => if decide (0 < p.1) = true then some (prc p) else none) (by rw [List.length_append]; omega) ?_ ?_
  · rintro ⟨p1, p2⟩ hp KS KN k1' k2'
    unfold prc at *
    dsimp only at *
    walk_at "run"
    split
    · rename_i h
      exact k1' _ _ _ (if_pos (decide_eq_true h)) rfl rfl
    · rename_i h
      exact k2' _ (if_neg (by simpa using h)) rfl
  · intro acc x1 x2
    have xl : acc.length = off c + off d := by
      rw [fm_if] at x1
      have := congrArg List.length x1
      rw [List.length_map, List.length_map, ← List.countP_eq_length_filter, List.countP_append] at this
      exact this
    intro _
    rw [if_neg (by omega)]
    refine k_eq hB ?_
    clear hA hB
    walk_at "runq"
    refine ⟨nl_prcs _, ?_⟩
    refine ⟨n, c, T, S, d, rfl, by omega, hF, ?_⟩
    walk_at "runq"
    refine ⟨rfl, ?_⟩
    walk_at "runq"
    refine ⟨dep_two, ?_⟩
    rw [eqv_two, if_neg (by decide)]
    walk_at "runq"
    simp only [nl_prcs, ↓reduceIte]
    have hR := fl_rev hF
    refine ⟨_, _, _, rfl, rfl, rfl, by decide, by decide, by decide, ?_⟩
    refine ⟨n, d, S.reverse, T.reverse, c, rfl, by rw [List.length_reverse]; omega, hR, ?_⟩
    refine ⟨_, rfl, ?_⟩
    walk_at "runq"
    refine ⟨dep_prcs, ?_⟩
    rw [eqv_prcs, decide_eq_true rfl, if_neg (by decide)]
    walk_at "runq"
    refine ⟨n, d, S.reverse, T.reverse, c, rfl, by rw [List.length_reverse]; omega, hR, ?_⟩
    walk_at "runq"
    refine ⟨rfl, ?_⟩
    walk_at "runq"
    simp only [nl_prcs, ↓reduceIte]
    walk_at "runq"
    intro _
    refine ⟨by unfold rngOk; omega, ?_⟩
    refine q_eq2 (by assumption) ?_
    show forL _ _ _ _ _
    refine forL_rng (lo := 0) (hi := T.length) (fun i ts => ∃ (m0 m1 m2 m3 m9 : Own) (c' : List Ch) (o7 o8 o10 : Option TVal), ts = [some (.int n, m0), some (.list (c.map prc), m1), some (.list (d.map prc), m2), some (.list (T.map prc), m3), some (.list [.list (c.map prc), .list (d.map prc)], .fz), some (.list (T.map prc), .full), some (.list [.list (d.map prc), .list (S.map prc)], .fz), o7, o8, some (.list (c'.map prc), m9), o10] ∧ Fl n c' (T.drop i.toNat) (S.drop i.toNat) d) (by omega) ⟨_, _, _, _, _, c, _, _, _, rfl, hF⟩ ?_ ?_
    · rintro i ts i0 i1 ⟨m0, m1, m2, m3, m9, c', o7, o8, o10, rfl, hFi⟩ K hK
      obtain ⟨p, hp⟩ : ∃ p, T[i.toNat]? = some p := ⟨_, List.getElem?_eq_getElem (by omega)⟩
      obtain ⟨q, hq⟩ : ∃ q, S[i.toNat]? = some q := ⟨_, List.getElem?_eq_getElem (by omega)⟩
      have hTd : T.drop i.toNat = p :: T.drop (i.toNat + 1) := by obtain ⟨hl, rfl⟩ := List.getElem?_eq_some_iff.mp hp; exact List.drop_eq_getElem_cons hl
      have hSd : S.drop i.toNat = q :: S.drop (i.toNat + 1) := by obtain ⟨hl, rfl⟩ := List.getElem?_eq_some_iff.mp hq; exact List.drop_eq_getElem_cons hl
      rw [hTd, hSd] at hFi
      obtain ⟨d', qs', q1, ua, va, ub, vb, eq, hCc, hrot, hDd, hd', hF'⟩ := fl_cons_inv hFi
      injection eq with eq1 eq2
      subst eq1 eq2
      have hat : atI (T.map prc) i = some (prc p) := by rw [atI_of i0, List.getElem?_map, hp]; rfl
      have has : atI (S.map prc) i = some (prc q) := by rw [atI_of i0, List.getElem?_map, hq]; rfl
      have hm : p ∈ c' := hCc.2.2.2.1.mem_iff.mpr (rot_mem hrot)
      have hcl := hCc.len
      have hit : (i + 1).toNat = i.toNat + 1 := by omega
      walk_at "runq"
      refine ⟨by rw [nl_prcs, Bool.or_true], _, hat, .inr rfl, ?_⟩
      refine ⟨n, c', p, q, rfl, hCc.2.1, by omega, hm, thd_of hCc hrot, ?_⟩
      walk_at "runq"
      refine ⟨_, has, rfl, dep_prc, ?_⟩
      rw [eqv_prc, decide_eq_true rfl, if_neg (by decide)]
      refine k_eq (by assumption) ?_
      walk_at "runq"
      refine ⟨by rw [nl_prcs, Bool.or_true], _, hat, .inr rfl, ?_⟩
      refine ⟨n, c', p, q, rfl, hCc.2.1, by omega, hm, thd_of hCc hrot, fun d2 h1 h2 => ?_⟩
      obtain rfl : d2 = d' := srtC_eq h2 hDd.2.2.2.2 (h1.trans hd'.symm)
      walk_at "runq"
      exact hK _ ⟨_, _, _, _, _, d2, _, _, _, rfl, by rw [hit]; exact hF'⟩
    · rintro ts ⟨m0, m1, m2, m3, m9, c', o7, o8, o10, rfl, hFi⟩
      rw [Int.toNat_natCast, List.drop_length] at hFi
      obtain ⟨-, rfl⟩ := fl_nil_inv hFi
      walk_at "runq"
      refine ⟨dep_prcs, ?_⟩
      rw [eqv_prcs, decide_eq_true rfl, if_pos rfl]
      walk_at "runq"
      refine ⟨by rw [nl_prcs, Bool.or_true], by rw [nl_prcs, Bool.or_true], ?_⟩
      refine ⟨n, c, d, u, v, u', v', rfl, hC, hD, fun a b x a' b' x' h h' => ?_⟩
      rw [hLO a b x a' b' x' h h']
      walk_at "runq"
      refine ⟨T, rfl, by omega, ?_⟩
      walk_at "runq"
      exact fin

-- %cut
theorem comb_sz : ∀ k : Nat, (comb k).sz = k + 1
  | 0 => rfl
  | k + 1 => by show (comb k).sz + 1 = _; rw [comb_sz k]
theorem comb_chs : ∀ m : Nat, (chs (comb m) 0).Perm ((rngI 2 ((m : Int) + 2 - 0)).map fun k => ((0, k) : Ch))
  | 0 => by rw [rI_nil (by omega)]; exact .refl _
  | m + 1 => by
    have ih := comb_chs m
    have e : chs (comb (m + 1)) 0 = (0, 0 + ((comb m).sz : Int) + 1) :: (chs (comb m) 0 ++ []) := rfl
    rw [e, List.append_nil, comb_sz, show (((m + 1 : Nat) : Int) + 2 - 0) = ((m : Int) + 2 - 0) + 1 by omega, rI_snoc (by omega), List.map_append, show (0 : Int) + ((m + 1 : Nat) : Int) + 1 = (m : Int) + 2 - 0 by omega]
    exact (List.Perm.cons _ ih).trans (List.perm_append_comm (l₁ := [_]))
theorem fan_cuts {n : Int} (h0 : 3 ≤ n) (h1 : n ≤ 100) : Cuts n ((rngI 2 (n - 1)).map fun k => ((0, k) : Ch)) (comb (n - 3).toNat) .lf := by
  refine ⟨h0, h1, ?_, ?_, ?_⟩
  · rw [comb_sz]
    show (((n - 3).toNat + 1 : Nat) : Int) + ((1 : Nat) : Int) + 1 = n
    omega
  · have := comb_chs (n - 3).toNat
    rw [show (((n - 3).toNat : Nat) : Int) + 2 - 0 = n - 1 by omega] at this
    rw [inr_nd, show chs Tr.lf (0 + ((comb (n - 3).toNat).sz : Int)) = [] from rfl, List.append_nil]
    exact this.symm
  · refine srtC_up ?_
    rw [List.pairwise_map]
    exact rngI_sorted.imp fun h => .inr ⟨rfl, h⟩
theorem fan_off (n : Int) : off ((rngI 2 (n - 1)).map fun k => ((0, k) : Ch)) = 0 := by
  unfold off
  rw [List.countP_eq_zero]
  intro p hp
  obtain ⟨k, -, rfl⟩ := List.mem_map.mp hp
  simp
theorem wy_a : Wy 5 [(1, 3), (1, 4)] [(1, 4), (1, 3)] [(0, 3), (0, 2)] [(0, 2), (0, 3)] := by
  have s1 : SrtC [(1, 3), (1, 4)] := by unfold SrtC; decide +kernel
  have s2 : SrtC [(0, 3), (1, 3)] := by unfold SrtC; decide +kernel
  have s3 : SrtC [(0, 2), (0, 3)] := by unfold SrtC; decide +kernel
  have C1 : Cuts 5 [(1, 3), (1, 4)] .lf (.nd (.nd .lf .lf) .lf) := ⟨by decide, by decide, by decide, by decide +kernel, s1⟩
  have C2 : Cuts 5 [(0, 3), (1, 3)] (.nd .lf (.nd .lf .lf)) .lf := ⟨by decide, by decide, by decide, by decide +kernel, s2⟩
  have r1 : Rot 0 (.nd .lf (.nd (.nd .lf .lf) .lf)) (.nd .lf (.nd .lf (.nd .lf .lf))) (1, 3) (2, 4) := .goR .lf (.rr 1 .lf .lf .lf)
  have r2 : Rot 0 (.nd .lf (.nd (.nd .lf .lf) .lf)) (.nd (.nd .lf (.nd .lf .lf)) .lf) (1, 4) (0, 3) := .ll 0 .lf (.nd .lf .lf) .lf
  have r3 : Rot 0 (.nd (.nd .lf (.nd .lf .lf)) .lf) (.nd .lf (.nd (.nd .lf .lf) .lf)) (0, 3) (1, 4) := .rr 0 .lf (.nd .lf .lf) .lf
  have r4 : Rot 0 (.nd (.nd .lf (.nd .lf .lf)) .lf) (.nd (.nd (.nd .lf .lf) .lf) .lf) (1, 3) (0, 2) := .goL .lf (.ll 0 .lf .lf .lf)
  have t1 := thd_of C1 r1
  have t2 := thd_of C1 r2
  have t3 := thd_of C2 r3
  have t4 := thd_of C2 r4
  refine .step (d := [(0, 3), (1, 3)]) (rest := []) ?_ t2 (by decide +kernel) s2 (.step (d := [(0, 2), (0, 3)]) (rest := []) ?_ t4 (by decide +kernel) s3 (.done rfl))
  · simp [List.filter, rdyB_of t1, rdyB_of t2]
  · simp [List.filter, rdyB_of t3, rdyB_of t4]
theorem wy_b : Wy 5 [(0, 2), (2, 4)] [(2, 4)] [(0, 3)] [(0, 2), (0, 3)] := by
  have s1 : SrtC [(0, 2), (2, 4)] := by unfold SrtC; decide +kernel
  have s3 : SrtC [(0, 2), (0, 3)] := by unfold SrtC; decide +kernel
  have C1 : Cuts 5 [(0, 2), (2, 4)] (.nd .lf .lf) (.nd .lf .lf) := ⟨by decide, by decide, by decide, by decide +kernel, s1⟩
  have r1 : Rot 0 (.nd (.nd .lf .lf) (.nd .lf .lf)) (.nd .lf (.nd .lf (.nd .lf .lf))) (0, 2) (1, 4) := .rr 0 .lf .lf (.nd .lf .lf)
  have r2 : Rot 0 (.nd (.nd .lf .lf) (.nd .lf .lf)) (.nd (.nd (.nd .lf .lf) .lf) .lf) (2, 4) (0, 3) := .ll 0 (.nd .lf .lf) .lf .lf
  have t1 := thd_of C1 r1
  have t2 := thd_of C1 r2
  refine .step (d := [(0, 2), (0, 3)]) (rest := []) ?_ t2 (by decide +kernel) s3 (.done rfl)
  simp [List.filter, rdyB_of t1, rdyB_of t2]
local macro_rules | `(tactic| walk_at "runq") => `(tactic| repeat (first | walk_at "s1" | (with_reducible refine wFor_q ?_; intro _ _) | with_reducible refine eLc_k ?_ | with_reducible refine eLc2_k ?_ | (((with_reducible refine And.intro ?_ ?_); · walk_at "ok"); try dsimp only)))

theorem wp_law : ∀ ns : List Int, ns.length ≤ 63 → w_law S__law_corners S__law_cuts S__law_lead_right S_lead_over ⟨fun _ => False, fun r _ => r.1 = .bool true, fun _ => False, fun _ => False⟩ ((List.replicate 8 none).set 1 (some (feedT ns 0 0 1))) := by
  intro ns hn
  have hf : Feed (feedT ns 0 0 1) := ⟨ns, 0, 0, 1, rfl, by decide, by decide, by decide, by decide⟩
  unfold feedT at *
  unfold w_law
  walk_at "runq"
  refine ⟨_, 12, rfl, hf, by decide, by decide, fun n f n0 n1 hf => ?_⟩
  walk_at "runq"
  refine ⟨f, n, rfl, hf, n0, by omega, fun u v c f hn hperm hsrt hcl hf => ?_⟩
  have hC : Cuts n c u v := ⟨n0, by omega, hn, hperm, hsrt⟩
  have hlen := hC.len
  walk_at "runq"
  refine ⟨f, n, rfl, hf, n0, by omega, fun u' v' d f hn' hperm' hsrt' hcl' hf => ?_⟩
  have hD : Cuts n d u' v' := ⟨n0, by omega, hn', hperm', hsrt'⟩
  have hlen' := hD.len
  walk_at "runq"
  rw [rngD_eq]
  refine compL_mapQ (fun k => PyData.int k) (fun k => some (prc (0, k))) (by rw [rngI_len]; omega) ?_ ?_
  · intro k hk KS KN k1 k2
    walk_at "run"
    exact k1 _ _ _ rfl rfl rfl
  · intro acc a1 a2
    rw [fm_some, show (rngI 2 (n - 1)).map (fun k => prc (0, k)) = ((rngI 2 (n - 1)).map fun k => ((0, k) : Ch)).map prc by rw [List.map_map]; rfl] at a1
    walk_at "runq"
    simp only [a1, a2, ↓reduceIte]
    have hF := fan_cuts n0 (show n ≤ 100 by omega)
    have hF0 := fan_off n
    generalize (rngI 2 (n - 1)).map (fun k => ((0, k) : Ch)) = fan at *
    refine q_eq2 (by assumption) ?_
    show forL _ _ _ _ _
    refine forL_inv (fun _ ts => ∃ (m2 m5 : Own) (o3 o4 o6 o7 : Option TVal), ts = [none, some (f, .full), some (.int n, m2), o3, o4, some (.list (fan.map prc), m5), o6, o7]) ⟨_, _, _, _, _, _, rfl⟩ ?_ ?_
    · rintro j x ts hx ⟨m2, m5, o3, o4, o6, o7, rfl⟩ K hK
      obtain ⟨a, b, rfl, ⟨ua, va, hA⟩, ub, vb, hB⟩ : ∃ a b : List Ch, x = .list [.list (a.map prc), .list (b.map prc)] ∧ (∃ u v, Cuts n a u v) ∧ ∃ u v, Cuts n b u v := by
        have hm := List.mem_of_getElem? hx
        simp only [List.mem_cons, List.not_mem_nil, or_false] at hm
        rcases hm with rfl | rfl | rfl | rfl | rfl
        · exact ⟨c, d, rfl, ⟨_, _, hC⟩, _, _, hD⟩
        · exact ⟨d, c, rfl, ⟨_, _, hD⟩, _, _, hC⟩
        · exact ⟨c, fan, rfl, ⟨_, _, hC⟩, _, _, hF⟩
        · exact ⟨fan, d, rfl, ⟨_, _, hF⟩, _, _, hD⟩
        · exact ⟨c, c, rfl, ⟨_, _, hC⟩, _, _, hC⟩
      clear hx
      walk_at "runq"
      refine ⟨n, a, b, ua, va, ub, vb, rfl, hA, hB, ?_⟩
      walk_at "runq"
      exact hK _ ⟨_, _, _, _, _, _, rfl⟩
    · rintro ts ⟨m2, m5, o3, o4, o6, o7, rfl⟩
      walk_at "runq"
      refine ⟨by rw [nl_prcs, Bool.or_true], by rw [nl_prcs, Bool.or_true], ?_⟩
      refine ⟨n, fan, fan, _, _, _, _, rfl, hF, hF, fun g1 k1 e1 g2 k2 e2 h h' => ?_⟩
      obtain ⟨rfl, -, -⟩ := wy_0 h hF hF0
      obtain ⟨-, rfl, -⟩ := wy_0 h' hF hF0
      walk_at "runq"
      refine ⟨dep_prcs (c := []), ?_⟩
      have e0 : (PyData.list (([] : List Ch).reverse.map prc)).eqv (.list []) = true := (eqv_prcs [] []).trans (decide_eq_true rfl)
      rw [if_neg (fun h => by rw [show (PyData.list (([] : List Ch).reverse.map prc)).eqv (.list []) = true from e0] at h; cases h)]
      walk_at "runq"
      have C1 : Cuts 5 [(1, 3), (1, 4)] .lf (.nd (.nd .lf .lf) .lf) := ⟨by decide, by decide, by decide, by decide +kernel, by unfold SrtC; decide +kernel⟩
      have C2 : Cuts 5 [(0, 2), (2, 4)] (.nd .lf .lf) (.nd .lf .lf) := ⟨by decide, by decide, by decide, by decide +kernel, by unfold SrtC; decide +kernel⟩
      refine ⟨5, [(1, 3), (1, 4)], [(0, 2), (2, 4)], _, _, _, _, rfl, C1, C2, fun g1 k1 e1 g2 k2 e2 h h' => ?_⟩
      obtain ⟨rfl, -, -⟩ := wy_uniq wy_a C1 h
      obtain ⟨-, rfl, -⟩ := wy_uniq wy_b C2 h'
      walk_at "runq"
      exact ⟨dep_prcs (c := [(1, 4), (1, 3), (0, 3)]), (eqv_prcs [(1, 4), (1, 3), (0, 3)] [(1, 4), (1, 3), (0, 3)]).trans (decide_eq_true rfl)⟩

end TV
end
namespace TVL
open PySem PySem.Spec L2 TV
open PyProof.Rows (envOfC)
def topS (i : Nat) : Stmt := PySem.Challenge.pw_diamondrows_k32_whole_flips_lead_over.main.body.getD i (.Pass ⟨0, 0, 0, 0⟩)

section
variable {P : Program} {w : World} {K : PySem.W.Frag} {mg : Str → Option Value} {base : Heap}

abbrev s__law_feed : Stmt := topS 18
abbrev ns__law_feed : List Str := ["script"]
theorem sc__law_feed : FnScope ns__law_feed ["script"] (defScope s__law_feed) := ⟨rfl, rfl, rfl, by decide +kernel, rfl, by decide +kernel, by decide +kernel⟩

abbrev s__law_draw : Stmt := topS 19
abbrev ns__law_draw : List Str := ["feed", "many", "cell", "told", "mixed"]
theorem sc__law_draw : FnScope ns__law_draw ["feed", "many"] (defScope s__law_draw) := ⟨rfl, rfl, rfl, by decide +kernel, rfl, by decide +kernel, by decide +kernel⟩

theorem d__law_draw (m_len : mg "len" = none) (m_abs : mg "abs" = none) (m_int : mg "int" = none) {f : Addr} {cdv : Value} {A : Around} {outer : List Env} {s : Shared} {H : Hp} {E : XK} (hr : Room 0 (A.deeper (envOfC "_law_draw" (defScope s__law_draw) s.heap.objs.size f cdv))) : SSs (cx0 P w K mg base ns__law_draw "_law_draw" (defScope s__law_draw) f cdv A outer s H E) [0] (defBody s__law_draw) (w__law_draw) := by
  have nd := sc__law_draw.nd
  have hu := hu65 hr
  exact (sss_cons (ss_if (sw_st (sw_and (st_cmp (op_eqP hu) sd_eq (so_e (se_ix ix_seq sd_ix (so_v 0 (pv 0)) (so_e se_int) (fun _ _ => rfl))) (so_e se_int) (nomark _)) (sw_and1 (st_cmp (op_ltA hu) sd_lt (so_e (se_ix ix_seq sd_ix (so_v 0 (pv 0)) (so_e se_int) (fun _ _ => rfl))) (so_e (se_k (sk_len rfl m_len (sk_ix (sk_v 0 (pv 0)) sk_int (fun _ _ => rfl))))) (nomark _))))) (sss_cons (ss_set (i := 2) nd rfl (by first | exact .inl rfl | exact .inr rfl) (by decide) (se_callB call_abs sd_abs rfl m_abs (by decide +kernel) (sa_cons (so_e (se_callTy call_int1 sd_int rfl m_int (by decide +kernel) (sa_cons (so_e (se_k (sk_ix (sk_ix (sk_v 0 (pv 0)) sk_int (fun _ _ => rfl)) (sk_ix (sk_v 0 (pv 0)) sk_int (fun _ _ => rfl)) (fun _ _ => rfl)))) sa_nil))) sa_nil)))
    (sss_cons (ss_augS (f := fun i j => i + j) (pv 0) (so_e se_int) (so_e se_int) iop_add)
    (sss_one (ss_if (st_cmp op_ge sd_cmp (so_v 2 (pv 2)) (so_e (se_op op_pow sd_pow (so_e se_int) (so_e se_int))) (nomark _)) (sss_one (ss_asg (se_v 2 (pv 2)) (sg_set (pv 0) (so_e se_int)))) (sss_one (ss_asg (se_op op_mod sd_mod (so_e (se_callTy call_int1 sd_int rfl m_int (by decide +kernel) (sa_cons (so_e (se_op op_addT sd_add (so_e (se_op op_addT sd_add (so_e (se_op op_mulT sd_mul (so_e (se_ix ix_seq sd_ix (so_v 0 (pv 0)) (so_e se_int) (fun _ _ => rfl))) (so_e se_int))) (so_e (se_op op_mulT sd_mul (so_v 2 (pv 2)) (so_e se_int))))) (so_e (se_ix ix_seq sd_ix (so_v 0 (pv 0)) (so_e se_int) (fun _ _ => rfl))))) sa_nil))) (so_e se_int)) (sg_set (pv 0) (so_e se_int)))))))) sss_nil)
    (sss_cons (ss_if (st_cmp op_gt sd_cmp (so_e (se_ix ix_seq sd_ix (so_v 0 (pv 0)) (so_e se_int) (fun _ _ => rfl))) (so_e se_int) (nomark _)) (sss_cons (ss_set (i := 3) nd rfl (by first | exact .inl rfl | exact .inr rfl) (by decide) (se_op op_mod sd_mod (so_e (se_callTy call_int1 sd_int rfl m_int (by decide +kernel) (sa_cons (so_e (se_ix ix_seq sd_ix (so_v 0 (pv 0)) (so_e se_int) (fun _ _ => rfl))) sa_nil))) (so_v 1 (pv 1))))
    (sss_cons (ss_asg (se_op op_fdivW sd_div (so_e (se_ix ix_seq sd_ix (so_v 0 (pv 0)) (so_e se_int) (fun _ _ => rfl))) (so_v 1 (pv 1))) (sg_set (pv 0) (so_e se_int)))
    (sss_one (ss_ret (se_mv 3 (pv 3)))))) sss_nil)
    (sss_cons (ss_asg (se_op op_mod sd_mod (so_e (se_callTy call_int1 sd_int rfl m_int (by decide +kernel) (sa_cons (so_e (se_op op_addT sd_add (so_e (se_op op_mulT sd_mul (so_e (se_ix ix_seq sd_ix (so_v 0 (pv 0)) (so_e se_int) (fun _ _ => rfl))) (so_e se_int))) (so_e se_int))) sa_nil))) (so_e se_int)) (sg_set (pv 0) (so_e se_int)))
    (sss_cons (ss_set (i := 4) nd rfl (by first | exact .inl rfl | exact .inr rfl) (by decide) (se_op op_mod sd_mod (so_e (se_callTy call_int1 sd_int rfl m_int (by decide +kernel) (sa_cons (so_e (se_op op_addT sd_add (so_e (se_op op_mulT sd_mul (so_e (se_ix ix_seq sd_ix (so_v 0 (pv 0)) (so_e se_int) (fun _ _ => rfl))) (so_e (se_ix ix_seq sd_ix (so_v 0 (pv 0)) (so_e se_int) (fun _ _ => rfl))))) (so_e (se_ix ix_seq sd_ix (so_v 0 (pv 0)) (so_e se_int) (fun _ _ => rfl))))) sa_nil))) (so_e se_int)))
    (sss_one (ss_ret (se_op op_mod sd_mod (so_e (se_op op_fdivW sd_div (so_v 4 (pv 4)) (so_e se_int))) (so_v 1 (pv 1)))))))))

abbrev s__law_corners : Stmt := topS 22
abbrev ns__law_corners : List Str := ["feed", "most"]
theorem sc__law_corners : FnScope ns__law_corners ["feed", "most"] (defScope s__law_corners) := ⟨rfl, rfl, rfl, by decide +kernel, rfl, by decide +kernel, by decide +kernel⟩

theorem d__law_corners {S__law_draw : FSpec} (C__law_draw : Cal P w K mg base 1 "_law_draw" ["feed", "many"] [0] S__law_draw) {f : Addr} {cdv : Value} {A : Around} {outer : List Env} {s : Shared} {H : Hp} {E : XK} (hr : Room 1 (A.deeper (envOfC "_law_corners" (defScope s__law_corners) s.heap.objs.size f cdv))) : SSs (cx0 P w K mg base ns__law_corners "_law_corners" (defScope s__law_corners) f cdv A outer s H E) [0] (defBody s__law_corners) (w__law_corners S__law_draw) := by
  obtain ⟨f__law_draw, fd__law_draw, G__law_draw, C__law_draw⟩ := C__law_draw
  have nd := sc__law_corners.nd
  have hu := hu65 hr
  exact (sss_one (ss_ret (se_op op_addT sd_add (so_e se_int) (so_e (se_callIo C__law_draw.ok G__law_draw (hr.mono (by decide)) rfl C__law_draw.m C__law_draw.kp C__law_draw.b (sa_cons (so_v 0 (pv 0)) (sa_cons (so_e (se_op op_sub sd_sub (so_v 1 (pv 1)) (so_e se_int))) sa_nil)))))))

abbrev s__law_cuts : Stmt := topS 21
abbrev ns__law_cuts : List Str := ["feed", "n", "cuts", "parts", "kind", "turn", "low", "high", "thirds", "third", "part"]
theorem sc__law_cuts : FnScope ns__law_cuts ["feed", "n"] (defScope s__law_cuts) := ⟨rfl, rfl, rfl, by decide +kernel, rfl, by decide +kernel, by decide +kernel⟩

theorem d__law_cuts {S__law_draw : FSpec} (C__law_draw : Cal P w K mg base 1 "_law_draw" ["feed", "many"] [0] S__law_draw) (m_range : mg "range" = none) (m_len : mg "len" = none) (m_sorted : mg "sorted" = none) {f : Addr} {cdv : Value} {A : Around} {outer : List Env} {s : Shared} {H : Hp} {E : XK} (hr : Room 1 (A.deeper (envOfC "_law_cuts" (defScope s__law_cuts) s.heap.objs.size f cdv))) : SSs (cx0 P w K mg base ns__law_cuts "_law_cuts" (defScope s__law_cuts) f cdv A outer s H E) [0] (defBody s__law_cuts) (w__law_cuts S__law_draw) := by
  obtain ⟨f__law_draw, fd__law_draw, G__law_draw, C__law_draw⟩ := C__law_draw
  have nd := sc__law_cuts.nd
  have hu := hu65 hr
  exact (sss_cons (ss_set (i := 2) nd rfl (by first | exact .inl rfl | exact .inr rfl) (by decide) (se_lst sv_nil))
    (sss_cons (ss_set (i := 3) nd rfl (by first | exact .inl rfl | exact .inr rfl) (by decide) (se_lst (sv_cons (se_tup (sv_cons se_int (sv_cons (se_op op_sub sd_sub (so_v 1 (pv 1)) (so_e se_int)) sv_nil))) sv_nil)))
    (sss_cons (ss_set (i := 4) nd rfl (by first | exact .inl rfl | exact .inr rfl) (by decide) (se_callIo C__law_draw.ok G__law_draw (hr.mono (by decide)) rfl C__law_draw.m C__law_draw.kp C__law_draw.b (sa_cons (so_v 0 (pv 0)) (sa_cons (so_e se_int) sa_nil))))
    (sss_cons (ss_for PassesOwn.never rfl (si_range1 rfl m_range (so_e (se_op op_mulT sd_mul (so_e se_int) (so_v 1 (pv 1))))) (sg_n (by decide) (pg_name (i := 5) nd rfl (by first | exact .inl rfl | exact .inr rfl))) (sss_one (ss_if (st_cmp op_gt sd_cmp (so_e (se_callB call_lenB sd_len rfl m_len (by decide +kernel) (sa_cons (so_v 3 (pv 3)) sa_nil))) (so_e se_int) (nomark _)) (sss_cons (ss_asg (se_mut0 PySem.F.slot_list_pop PySem.F.type_list_pop mt_pop sd_pop (pv 3)) (sg_t rfl (sgs_cons (sg_n (by decide) (pg_name (i := 6) nd rfl (by first | exact .inl rfl | exact .inr rfl))) (sgs_cons (sg_n (by decide) (pg_name (i := 7) nd rfl (by first | exact .inl rfl | exact .inr rfl))) sgs_nil))))
    (sss_cons (ss_set (i := 8) nd rfl (by first | exact .inl rfl | exact .inr rfl) (by decide) (se_lst (sv_cons (se_op op_addT sd_add (so_v 6 (pv 6)) (so_e se_int)) (sv_cons (se_op op_sub sd_sub (so_v 7 (pv 7)) (so_e se_int)) (sv_cons (se_op op_fdivW sd_div (so_e (se_op op_addT sd_add (so_v 6 (pv 6)) (so_v 7 (pv 7)))) (so_e se_int)) sv_nil)))))
    (sss_cons (ss_set (i := 9) nd rfl (by first | exact .inl rfl | exact .inr rfl) (by decide) (se_op op_addT sd_add (so_e (se_op op_addT sd_add (so_v 6 (pv 6)) (so_e se_int))) (so_e (se_callIo C__law_draw.ok G__law_draw (hr.mono (by decide)) rfl C__law_draw.m C__law_draw.kp C__law_draw.b (sa_cons (so_v 0 (pv 0)) (sa_cons (so_e (se_op op_sub sd_sub (so_e (se_op op_sub sd_sub (so_v 7 (pv 7)) (so_v 6 (pv 6)))) (so_e se_int))) sa_nil))))))
    (sss_cons (ss_if (st_cmp (op_ltA hu) sd_lt (so_v 4 (pv 4)) (so_e se_int) (nomark _)) (sss_one (ss_set (i := 9) nd rfl (by first | exact .inl rfl | exact .inr rfl) (by decide) (se_ix ix_seq sd_ix (so_v 8 (pv 8)) (so_v 4 (pv 4)) (fun _ _ => rfl)))) sss_nil)
    (sss_one (ss_for PassesOwn.never rfl (si_seq (se_lst (sv_cons (se_tup (sv_cons (se_v 6 (pv 6)) (sv_cons (se_v 9 (pv 9)) sv_nil))) (sv_cons (se_tup (sv_cons (se_v 9 (pv 9)) (sv_cons (se_v 7 (pv 7)) sv_nil))) sv_nil)))) (sg_n (by decide) (pg_name (i := 10) nd rfl (by first | exact .inl rfl | exact .inr rfl))) (sss_one (ss_if (st_cmp op_gt sd_cmp (so_e (se_op op_sub sd_sub (so_e (se_ix ix_seq sd_ix (so_v 10 (pv 10)) (so_e se_int) (fun _ _ => rfl))) (so_e (se_ix ix_seq sd_ix (so_v 10 (pv 10)) (so_e se_int) (fun _ _ => rfl))))) (so_e se_int) (nomark _)) (sss_cons (ss_expr (se_app (pv 2) (se_v 10 (pv 10))))
    (sss_one (ss_expr (se_app (pv 3) (se_v 10 (pv 10)))))) sss_nil)))))))) sss_nil)))
    (sss_one (ss_ret (se_callB cr_sortedTI sd_sortT rfl m_sorted (by decide +kernel) (sa_cons (so_v 2 (pv 2)) sa_nil))))))))

abbrev s_is_joined : Stmt := topS 8
abbrev ns_is_joined : List Str := ["n", "cuts", "i", "j", "low", "high"]
theorem sc_is_joined : FnScope ns_is_joined ["n", "cuts", "i", "j"] (defScope s_is_joined) := ⟨rfl, rfl, rfl, by decide +kernel, rfl, by decide +kernel, by decide +kernel⟩

theorem d_is_joined (m_min : mg "min" = none) (m_max : mg "max" = none) {f : Addr} {cdv : Value} {A : Around} {outer : List Env} {s : Shared} {H : Hp} {E : XK} (hr : Room 0 (A.deeper (envOfC "is_joined" (defScope s_is_joined) s.heap.objs.size f cdv))) : SSs (cx0 P w K mg base ns_is_joined "is_joined" (defScope s_is_joined) f cdv A outer s H E) [] (defBody s_is_joined) (w_is_joined) := by
  have nd := sc_is_joined.nd
  have hu := hu65 hr
  exact (sss_cons (ss_set (i := 4) nd rfl (by first | exact .inl rfl | exact .inr rfl) (by decide) (se_callB (call_min2 rfl) sd_min2 rfl m_min (by decide +kernel) (sa_cons (so_v 2 (pv 2)) (sa_cons (so_v 3 (pv 3)) sa_nil))))
    (sss_cons (ss_set (i := 5) nd rfl (by first | exact .inl rfl | exact .inr rfl) (by decide) (se_callB (call_max2 rfl) sd_max2 rfl m_max (by decide +kernel) (sa_cons (so_v 2 (pv 2)) (sa_cons (so_v 3 (pv 3)) sa_nil))))
    (sss_one (ss_ret (se_or (se_cmp (op_inP hu) sd_in (so_e (se_op op_sub sd_sub (so_v 5 (pv 5)) (so_v 4 (pv 4)))) (so_e (se_tup (sv_cons se_int (sv_cons (se_op op_sub sd_sub (so_v 0 (pv 0)) (so_e se_int)) sv_nil)))) (by with_unfolding_all rfl)) (se_one (se_cmp (op_inP hu) sd_in (so_e (se_tup (sv_cons (se_v 4 (pv 4)) (sv_cons (se_v 5 (pv 5)) sv_nil)))) (so_v 1 (pv 1)) (by with_unfolding_all rfl))))))))

abbrev s_other_chord : Stmt := topS 10
abbrev ns_other_chord : List Str := ["n", "cuts", "chord", "i", "j", "others", "k", "thirds"]
theorem sc_other_chord : FnScope ns_other_chord ["n", "cuts", "chord"] (defScope s_other_chord) := ⟨rfl, rfl, rfl, by decide +kernel, rfl, by decide +kernel, by decide +kernel⟩

theorem d_other_chord {S_is_joined : FSpec} (C_is_joined : Cal P w K mg base 1 "is_joined" ["n", "cuts", "i", "j"] [] S_is_joined) (m_range : mg "range" = none) {f : Addr} {cdv : Value} {A : Around} {outer : List Env} {s : Shared} {H : Hp} {E : XK} (hr : Room 1 (A.deeper (envOfC "other_chord" (defScope s_other_chord) s.heap.objs.size f cdv))) : SSs (cx0 P w K mg base ns_other_chord "other_chord" (defScope s_other_chord) f cdv A outer s H E) [] (defBody s_other_chord) (w_other_chord S_is_joined) := by
  obtain ⟨f_is_joined, fd_is_joined, G_is_joined, C_is_joined⟩ := C_is_joined
  have nd := sc_other_chord.nd
  have hu := hu65 hr
  exact (sss_cons (ss_asg (se_v 2 (pv 2)) (sg_t rfl (sgs_cons (sg_n (by decide) (pg_name (i := 3) nd rfl (by first | exact .inl rfl | exact .inr rfl))) (sgs_cons (sg_n (by decide) (pg_name (i := 4) nd rfl (by first | exact .inl rfl | exact .inr rfl))) sgs_nil))))
    (sss_cons (ss_setLc (i := 5) (n := 8) rfl nd rfl rfl rfl rfl (by decide) (sw_true rfl rfl rfl (by decide +kernel)) (si_range1 rfl m_range (so_v 0 (pv 0))) (blkOk_by (own := [("k", 6)]) (N := ns_other_chord) (sc := defScope s_other_chord) (by decide +kernel)) (fun _ _ _ _ _ => (sg_n (by decide) (pg_name (i := 6) nd rfl (by first | exact .inl rfl | exact .inr rfl)))) (fun _ _ _ _ _ => (sts_one (sw_st (sw_and (st_cmp (op_neP hu) sd_ne (so_v 6 (pv 6)) (so_v 3 (pv 3)) (nomark _)) (sw_and1 (st_cmp (op_neP hu) sd_ne (so_v 6 (pv 6)) (so_v 4 (pv 4)) (nomark _))))))) (fun _ _ _ _ _ => (se_v 6 (pv 6))))
    (sss_cons (ss_setLc (i := 7) (n := 8) rfl nd rfl rfl rfl rfl (by decide) (sw_true rfl rfl rfl (by decide +kernel)) (si_seq (se_v 5 (pv 5))) (blkOk_by (own := [("k", 6)]) (N := ns_other_chord) (sc := defScope s_other_chord) (by decide +kernel)) (fun _ _ _ _ _ => (sg_n (by decide) (pg_name (i := 6) nd rfl (by first | exact .inl rfl | exact .inr rfl)))) (fun _ _ _ _ _ => (sts_one (sw_st (sw_and (st_of (se_call C_is_joined.ok G_is_joined (hr.mono (by decide)) rfl C_is_joined.m C_is_joined.kp C_is_joined.b (sa_cons (so_v 0 (pv 0)) (sa_cons (so_v 1 (pv 1)) (sa_cons (so_v 3 (pv 3)) (sa_cons (so_v 6 (pv 6)) sa_nil)))))) (sw_and1 (st_of (se_call C_is_joined.ok G_is_joined (hr.mono (by decide)) rfl C_is_joined.m C_is_joined.kp C_is_joined.b (sa_cons (so_v 0 (pv 0)) (sa_cons (so_v 1 (pv 1)) (sa_cons (so_v 4 (pv 4)) (sa_cons (so_v 6 (pv 6)) sa_nil))))))))))) (fun _ _ _ _ _ => (se_v 6 (pv 6))))
    (sss_one (ss_ret (se_tup (sv_cons (se_ix ix_seq sd_ix (so_v 7 (pv 7)) (so_e se_int) (fun _ _ => rfl)) (sv_cons (se_ix ix_seq sd_ix (so_v 7 (pv 7)) (so_e se_int) (fun _ _ => rfl)) sv_nil))))))))

abbrev s_with_flip : Stmt := topS 11
abbrev ns_with_flip : List Str := ["n", "cuts", "chord", "other"]
theorem sc_with_flip : FnScope ns_with_flip ["n", "cuts", "chord"] (defScope s_with_flip) := ⟨rfl, rfl, rfl, by decide +kernel, rfl, by decide +kernel, by decide +kernel⟩

theorem d_with_flip {S_other_chord : FSpec} (C_other_chord : Cal P w K mg base 2 "other_chord" ["n", "cuts", "chord"] [] S_other_chord) (m_sorted : mg "sorted" = none) {f : Addr} {cdv : Value} {A : Around} {outer : List Env} {s : Shared} {H : Hp} {E : XK} (hr : Room 2 (A.deeper (envOfC "with_flip" (defScope s_with_flip) s.heap.objs.size f cdv))) : SSs (cx0 P w K mg base ns_with_flip "with_flip" (defScope s_with_flip) f cdv A outer s H E) [] (defBody s_with_flip) (w_with_flip S_other_chord) := by
  obtain ⟨f_other_chord, fd_other_chord, G_other_chord, C_other_chord⟩ := C_other_chord
  have nd := sc_with_flip.nd
  have hu := hu65 hr
  exact (sss_one (ss_ret (se_callB cr_sortedTI sd_sortT rfl m_sorted (by decide +kernel) (sa_cons (so_e (se_op op_addT sd_add (so_e (se_lc (n := 4) rfl nd rfl rfl (si_seq (se_v 1 (pv 1))) (blkOk_by (own := [("other", 3)]) (N := ns_with_flip) (sc := defScope s_with_flip) (by decide +kernel)) (fun _ _ _ _ _ => (sg_n (by decide) (pg_name (i := 3) nd rfl (by first | exact .inl rfl | exact .inr rfl)))) (fun _ _ _ _ _ => (sts_one (st_cmp (op_neP hu) sd_ne (so_v 3 (pv 3)) (so_v 2 (pv 2)) (nomark _)))) (fun _ _ _ _ _ => (se_v 3 (pv 3))))) (so_e (se_lst (sv_cons (se_call C_other_chord.ok G_other_chord (hr.mono (by decide)) rfl C_other_chord.m C_other_chord.kp C_other_chord.b (sa_cons (so_v 0 (pv 0)) (sa_cons (so_v 1 (pv 1)) (sa_cons (so_v 2 (pv 2)) sa_nil)))) sv_nil))))) sa_nil))))

abbrev s_way_to_corner : Stmt := topS 14
abbrev ns_way_to_corner : List Str := ["n", "cuts", "gone", "come", "left", "chord", "ready"]
theorem sc_way_to_corner : FnScope ns_way_to_corner ["n", "cuts"] (defScope s_way_to_corner) := ⟨rfl, rfl, rfl, by decide +kernel, rfl, by decide +kernel, by decide +kernel⟩

theorem d_way_to_corner {S_other_chord : FSpec} {S_with_flip : FSpec} (C_other_chord : Cal P w K mg base 2 "other_chord" ["n", "cuts", "chord"] [] S_other_chord) (C_with_flip : Cal P w K mg base 3 "with_flip" ["n", "cuts", "chord"] [] S_with_flip) (m_list : mg "list" = none) (m_any : mg "any" = none) {f : Addr} {cdv : Value} {A : Around} {outer : List Env} {s : Shared} {H : Hp} {E : XK} (hr : Room 3 (A.deeper (envOfC "way_to_corner" (defScope s_way_to_corner) s.heap.objs.size f cdv))) : SSs (cx0 P w K mg base ns_way_to_corner "way_to_corner" (defScope s_way_to_corner) f cdv A outer s H E) [] (defBody s_way_to_corner) (w_way_to_corner S_other_chord S_with_flip) := by
  obtain ⟨f_other_chord, fd_other_chord, G_other_chord, C_other_chord⟩ := C_other_chord
  obtain ⟨f_with_flip, fd_with_flip, G_with_flip, C_with_flip⟩ := C_with_flip
  have nd := sc_way_to_corner.nd
  have hu := hu65 hr
  exact (sss_cons (ss_set (i := 2) nd rfl (by first | exact .inl rfl | exact .inr rfl) (by decide) (se_lst sv_nil))
    (sss_cons (ss_set (i := 3) nd rfl (by first | exact .inl rfl | exact .inr rfl) (by decide) (se_lst sv_nil))
    (sss_cons (ss_set (i := 4) nd rfl (by first | exact .inl rfl | exact .inr rfl) (by decide) (se_callTy call_list_of sd_list rfl m_list (by decide +kernel) (sa_cons (so_v 1 (pv 1)) sa_nil)))
    (sss_cons (ss_while PassesOwn.never (st_of (se_callB (cr_any rfl) sd_any rfl m_any (by decide +kernel) (sa_cons (so_e (se_lc (n := 7) rfl nd rfl rfl (si_seq (se_v 4 (pv 4))) (blkOk_by (own := [("chord", 5)]) (N := ns_way_to_corner) (sc := defScope s_way_to_corner) (by decide +kernel)) (fun _ _ _ _ _ => (sg_n (by decide) (pg_name (i := 5) nd rfl (by first | exact .inl rfl | exact .inr rfl)))) (fun _ _ _ _ _ => sts_nil) (fun _ _ _ _ _ => (se_cmp op_gt sd_cmp (so_e (se_ix ix_seq sd_ix (so_v 5 (pv 5)) (so_e se_int) (fun _ _ => rfl))) (so_e se_int) (nomark _))))) sa_nil))) (sss_cons (ss_setLc (i := 6) (n := 7) rfl nd rfl rfl rfl rfl (by decide) (sw_true rfl rfl rfl (by decide +kernel)) (si_seq (se_v 4 (pv 4))) (blkOk_by (own := [("chord", 5)]) (N := ns_way_to_corner) (sc := defScope s_way_to_corner) (by decide +kernel)) (fun _ _ _ _ _ => (sg_n (by decide) (pg_name (i := 5) nd rfl (by first | exact .inl rfl | exact .inr rfl)))) (fun _ _ _ _ _ => (sts_one (sw_st (sw_and (st_cmp op_gt sd_cmp (so_e (se_ix ix_seq sd_ix (so_v 5 (pv 5)) (so_e se_int) (fun _ _ => rfl))) (so_e se_int) (nomark _)) (sw_and1 (st_cmp (op_eqP hu) sd_eq (so_e (se_ix ix_seq sd_ix (so_e (se_call C_other_chord.ok G_other_chord (hr.mono (by decide)) rfl C_other_chord.m C_other_chord.kp C_other_chord.b (sa_cons (so_v 0 (pv 0)) (sa_cons (so_v 4 (pv 4)) (sa_cons (so_v 5 (pv 5)) sa_nil))))) (so_e se_int) (fun _ _ => rfl))) (so_e se_int) (nomark _))))))) (fun _ _ _ _ _ => (se_v 5 (pv 5))))
    (sss_cons (ss_expr (se_app (pv 2) (se_ix ix_seq sd_ix (so_v 6 (pv 6)) (so_e se_int) (fun _ _ => rfl))))
    (sss_cons (ss_expr (se_app (pv 3) (se_call C_other_chord.ok G_other_chord (hr.mono (by decide)) rfl C_other_chord.m C_other_chord.kp C_other_chord.b (sa_cons (so_v 0 (pv 0)) (sa_cons (so_v 4 (pv 4)) (sa_cons (so_e (se_ix ix_seq sd_ix (so_v 6 (pv 6)) (so_e se_int) (fun _ _ => rfl))) sa_nil))))))
    (sss_one (ss_set (i := 4) nd rfl (by first | exact .inl rfl | exact .inr rfl) (by decide) (se_call C_with_flip.ok G_with_flip (hr.mono (by decide)) rfl C_with_flip.m C_with_flip.kp C_with_flip.b (sa_cons (so_v 0 (pv 0)) (sa_cons (so_v 4 (pv 4)) (sa_cons (so_e (se_ix ix_seq sd_ix (so_v 6 (pv 6)) (so_e se_int) (fun _ _ => rfl))) sa_nil))))))))))
    (sss_one (ss_ret (se_tup (sv_cons (se_mv 2 (pv 2)) (sv_cons (se_mv 3 (pv 3)) sv_nil)))))))))

abbrev s_lead_over : Stmt := topS 15
abbrev ns_lead_over : List Str := ["n", "cuts", "goal", "gone", "_", "come"]
theorem sc_lead_over : FnScope ns_lead_over ["n", "cuts", "goal"] (defScope s_lead_over) := ⟨rfl, rfl, rfl, by decide +kernel, rfl, by decide +kernel, by decide +kernel⟩

theorem d_lead_over {S_way_to_corner : FSpec} (C_way_to_corner : Cal P w K mg base 4 "way_to_corner" ["n", "cuts"] [] S_way_to_corner) {f : Addr} {cdv : Value} {A : Around} {outer : List Env} {s : Shared} {H : Hp} {E : XK} (hr : Room 4 (A.deeper (envOfC "lead_over" (defScope s_lead_over) s.heap.objs.size f cdv))) : SSs (cx0 P w K mg base ns_lead_over "lead_over" (defScope s_lead_over) f cdv A outer s H E) [] (defBody s_lead_over) (w_lead_over S_way_to_corner) := by
  obtain ⟨f_way_to_corner, fd_way_to_corner, G_way_to_corner, C_way_to_corner⟩ := C_way_to_corner
  have nd := sc_lead_over.nd
  have hu := hu65 hr
  exact (sss_cons (ss_asg (se_call C_way_to_corner.ok G_way_to_corner (hr.mono (by decide)) rfl C_way_to_corner.m C_way_to_corner.kp C_way_to_corner.b (sa_cons (so_v 0 (pv 0)) (sa_cons (so_v 1 (pv 1)) sa_nil))) (sg_t rfl (sgs_cons (sg_n (by decide) (pg_name (i := 3) nd rfl (by first | exact .inl rfl | exact .inr rfl))) (sgs_cons (sg_n (by decide) (pg_name (i := 4) nd rfl (by first | exact .inl rfl | exact .inr rfl))) sgs_nil))))
    (sss_cons (ss_asg (se_call C_way_to_corner.ok G_way_to_corner (hr.mono (by decide)) rfl C_way_to_corner.m C_way_to_corner.kp C_way_to_corner.b (sa_cons (so_v 0 (pv 0)) (sa_cons (so_v 2 (pv 2)) sa_nil))) (sg_t rfl (sgs_cons (sg_n (by decide) (pg_name (i := 4) nd rfl (by first | exact .inl rfl | exact .inr rfl))) (sgs_cons (sg_n (by decide) (pg_name (i := 5) nd rfl (by first | exact .inl rfl | exact .inr rfl))) sgs_nil))))
    (sss_one (ss_ret (se_op op_addT sd_add (so_v 3 (pv 3)) (so_e (se_revL (so_v 5 (pv 5)))))))))

abbrev s__law_joined : Stmt := topS 23
abbrev ns__law_joined : List Str := ["n", "cuts", "a", "b", "low", "high"]
theorem sc__law_joined : FnScope ns__law_joined ["n", "cuts", "a", "b"] (defScope s__law_joined) := ⟨rfl, rfl, rfl, by decide +kernel, rfl, by decide +kernel, by decide +kernel⟩

theorem d__law_joined (m_min : mg "min" = none) (m_max : mg "max" = none) {f : Addr} {cdv : Value} {A : Around} {outer : List Env} {s : Shared} {H : Hp} {E : XK} (hr : Room 0 (A.deeper (envOfC "_law_joined" (defScope s__law_joined) s.heap.objs.size f cdv))) : SSs (cx0 P w K mg base ns__law_joined "_law_joined" (defScope s__law_joined) f cdv A outer s H E) [] (defBody s__law_joined) (w__law_joined) := by
  have nd := sc__law_joined.nd
  have hu := hu65 hr
  exact (sss_cons (ss_set (i := 4) nd rfl (by first | exact .inl rfl | exact .inr rfl) (by decide) (se_callB (call_min2 rfl) sd_min2 rfl m_min (by decide +kernel) (sa_cons (so_v 2 (pv 2)) (sa_cons (so_v 3 (pv 3)) sa_nil))))
    (sss_cons (ss_set (i := 5) nd rfl (by first | exact .inl rfl | exact .inr rfl) (by decide) (se_callB (call_max2 rfl) sd_max2 rfl m_max (by decide +kernel) (sa_cons (so_v 2 (pv 2)) (sa_cons (so_v 3 (pv 3)) sa_nil))))
    (sss_one (ss_ret (se_or (se_cmp (op_eqP hu) sd_eq (so_e (se_op op_sub sd_sub (so_v 5 (pv 5)) (so_v 4 (pv 4)))) (so_e se_int) (nomark _)) (se_or (se_and (se_cmp (op_eqP hu) sd_eq (so_v 4 (pv 4)) (so_e se_int) (nomark _)) (se_one (se_cmp (op_eqP hu) sd_eq (so_v 5 (pv 5)) (so_e (se_op op_sub sd_sub (so_v 0 (pv 0)) (so_e se_int))) (nomark _)))) (se_one (se_cmp (op_inP hu) sd_in (so_e (se_tup (sv_cons (se_v 4 (pv 4)) (sv_cons (se_v 5 (pv 5)) sv_nil)))) (so_v 1 (pv 1)) (by with_unfolding_all rfl)))))))))

abbrev s__law_both : Stmt := topS 24
abbrev ns__law_both : List Str := ["n", "cuts", "chord", "k"]
theorem sc__law_both : FnScope ns__law_both ["n", "cuts", "chord", "k"] (defScope s__law_both) := ⟨rfl, rfl, rfl, by decide +kernel, rfl, by decide +kernel, by decide +kernel⟩

theorem d__law_both {S__law_joined : FSpec} (C__law_joined : Cal P w K mg base 1 "_law_joined" ["n", "cuts", "a", "b"] [] S__law_joined) {f : Addr} {cdv : Value} {A : Around} {outer : List Env} {s : Shared} {H : Hp} {E : XK} (hr : Room 1 (A.deeper (envOfC "_law_both" (defScope s__law_both) s.heap.objs.size f cdv))) : SSs (cx0 P w K mg base ns__law_both "_law_both" (defScope s__law_both) f cdv A outer s H E) [] (defBody s__law_both) (w__law_both S__law_joined) := by
  obtain ⟨f__law_joined, fd__law_joined, G__law_joined, C__law_joined⟩ := C__law_joined
  have nd := sc__law_both.nd
  have hu := hu65 hr
  exact (sss_one (ss_ret (se_and (se_call C__law_joined.ok G__law_joined (hr.mono (by decide)) rfl C__law_joined.m C__law_joined.kp C__law_joined.b (sa_cons (so_v 0 (pv 0)) (sa_cons (so_v 1 (pv 1)) (sa_cons (so_e (se_ix ix_seq sd_ix (so_v 2 (pv 2)) (so_e se_int) (fun _ _ => rfl))) (sa_cons (so_v 3 (pv 3)) sa_nil))))) (se_one (se_call C__law_joined.ok G__law_joined (hr.mono (by decide)) rfl C__law_joined.m C__law_joined.kp C__law_joined.b (sa_cons (so_v 0 (pv 0)) (sa_cons (so_v 1 (pv 1)) (sa_cons (so_e (se_ix ix_seq sd_ix (so_v 2 (pv 2)) (so_e se_int) (fun _ _ => rfl))) (sa_cons (so_v 3 (pv 3)) sa_nil)))))))))

abbrev s__law_come : Stmt := topS 25
abbrev ns__law_come : List Str := ["n", "cuts", "chord", "inner", "k", "outer"]
theorem sc__law_come : FnScope ns__law_come ["n", "cuts", "chord"] (defScope s__law_come) := ⟨rfl, rfl, rfl, by decide +kernel, rfl, by decide +kernel, by decide +kernel⟩

theorem d__law_come {S__law_both : FSpec} (C__law_both : Cal P w K mg base 2 "_law_both" ["n", "cuts", "chord", "k"] [] S__law_both) (m_range : mg "range" = none) (m_max : mg "max" = none) (m_min : mg "min" = none) {f : Addr} {cdv : Value} {A : Around} {outer : List Env} {s : Shared} {H : Hp} {E : XK} (hr : Room 2 (A.deeper (envOfC "_law_come" (defScope s__law_come) s.heap.objs.size f cdv))) : SSs (cx0 P w K mg base ns__law_come "_law_come" (defScope s__law_come) f cdv A outer s H E) [] (defBody s__law_come) (w__law_come S__law_both) := by
  obtain ⟨f__law_both, fd__law_both, G__law_both, C__law_both⟩ := C__law_both
  have nd := sc__law_come.nd
  have hu := hu65 hr
  exact (sss_cons (ss_setLc (i := 3) (n := 6) rfl nd rfl rfl rfl rfl (by decide) (sw_true rfl rfl rfl (by decide +kernel)) (si_range2 rfl m_range (so_e (se_op op_addT sd_add (so_e (se_ix ix_seq sd_ix (so_v 2 (pv 2)) (so_e se_int) (fun _ _ => rfl))) (so_e se_int))) (so_e (se_ix ix_seq sd_ix (so_v 2 (pv 2)) (so_e se_int) (fun _ _ => rfl)))) (blkOk_by (own := [("k", 4)]) (N := ns__law_come) (sc := defScope s__law_come) (by decide +kernel)) (fun _ _ _ _ _ => (sg_n (by decide) (pg_name (i := 4) nd rfl (by first | exact .inl rfl | exact .inr rfl)))) (fun _ _ _ _ _ => (sts_one (st_of (se_call C__law_both.ok G__law_both (hr.mono (by decide)) rfl C__law_both.m C__law_both.kp C__law_both.b (sa_cons (so_v 0 (pv 0)) (sa_cons (so_v 1 (pv 1)) (sa_cons (so_v 2 (pv 2)) (sa_cons (so_v 4 (pv 4)) sa_nil)))))))) (fun _ _ _ _ _ => (se_v 4 (pv 4))))
    (sss_cons (ss_setLc (i := 5) (n := 6) rfl nd rfl rfl rfl rfl (by decide) (sw_true rfl rfl rfl (by decide +kernel)) (si_range1 rfl m_range (so_v 0 (pv 0))) (blkOk_by (own := [("k", 4)]) (N := ns__law_come) (sc := defScope s__law_come) (by decide +kernel)) (fun _ _ _ _ _ => (sg_n (by decide) (pg_name (i := 4) nd rfl (by first | exact .inl rfl | exact .inr rfl)))) (fun _ _ _ _ _ => (sts_one (sw_st (sw_and (sw_st (sw_or (st_cmp (op_ltA hu) sd_lt (so_v 4 (pv 4)) (so_e (se_ix ix_seq sd_ix (so_v 2 (pv 2)) (so_e se_int) (fun _ _ => rfl))) (nomark _)) (sw_or1 (st_cmp op_gt sd_cmp (so_v 4 (pv 4)) (so_e (se_ix ix_seq sd_ix (so_v 2 (pv 2)) (so_e se_int) (fun _ _ => rfl))) (nomark _))))) (sw_and1 (st_of (se_call C__law_both.ok G__law_both (hr.mono (by decide)) rfl C__law_both.m C__law_both.kp C__law_both.b (sa_cons (so_v 0 (pv 0)) (sa_cons (so_v 1 (pv 1)) (sa_cons (so_v 2 (pv 2)) (sa_cons (so_v 4 (pv 4)) sa_nil))))))))))) (fun _ _ _ _ _ => (se_v 4 (pv 4))))
    (sss_one (ss_ret (se_tup (sv_cons (se_callB (call_min2 rfl) sd_min2 rfl m_min (by decide +kernel) (sa_cons (so_e (se_ix ix_seq sd_ix (so_v 3 (pv 3)) (so_e se_int) (fun _ _ => rfl))) (sa_cons (so_e (se_ix ix_seq sd_ix (so_v 5 (pv 5)) (so_e se_int) (fun _ _ => rfl))) sa_nil))) (sv_cons (se_callB (call_max2 rfl) sd_max2 rfl m_max (by decide +kernel) (sa_cons (so_e (se_ix ix_seq sd_ix (so_v 3 (pv 3)) (so_e se_int) (fun _ _ => rfl))) (sa_cons (so_e (se_ix ix_seq sd_ix (so_v 5 (pv 5)) (so_e se_int) (fun _ _ => rfl))) sa_nil))) sv_nil)))))))

abbrev s__law_flipped : Stmt := topS 26
abbrev ns__law_flipped : List Str := ["n", "cuts", "chord", "other"]
theorem sc__law_flipped : FnScope ns__law_flipped ["n", "cuts", "chord"] (defScope s__law_flipped) := ⟨rfl, rfl, rfl, by decide +kernel, rfl, by decide +kernel, by decide +kernel⟩

theorem d__law_flipped {S__law_come : FSpec} (C__law_come : Cal P w K mg base 3 "_law_come" ["n", "cuts", "chord"] [] S__law_come) (m_sorted : mg "sorted" = none) {f : Addr} {cdv : Value} {A : Around} {outer : List Env} {s : Shared} {H : Hp} {E : XK} (hr : Room 3 (A.deeper (envOfC "_law_flipped" (defScope s__law_flipped) s.heap.objs.size f cdv))) : SSs (cx0 P w K mg base ns__law_flipped "_law_flipped" (defScope s__law_flipped) f cdv A outer s H E) [] (defBody s__law_flipped) (w__law_flipped S__law_come) := by
  obtain ⟨f__law_come, fd__law_come, G__law_come, C__law_come⟩ := C__law_come
  have nd := sc__law_flipped.nd
  have hu := hu65 hr
  exact (sss_one (ss_ret (se_callB cr_sortedTI sd_sortT rfl m_sorted (by decide +kernel) (sa_cons (so_e (se_op op_addT sd_add (so_e (se_lc (n := 4) rfl nd rfl rfl (si_seq (se_v 1 (pv 1))) (blkOk_by (own := [("other", 3)]) (N := ns__law_flipped) (sc := defScope s__law_flipped) (by decide +kernel)) (fun _ _ _ _ _ => (sg_n (by decide) (pg_name (i := 3) nd rfl (by first | exact .inl rfl | exact .inr rfl)))) (fun _ _ _ _ _ => (sts_one (st_cmp (op_neP hu) sd_ne (so_v 3 (pv 3)) (so_v 2 (pv 2)) (nomark _)))) (fun _ _ _ _ _ => (se_v 3 (pv 3))))) (so_e (se_lst (sv_cons (se_call C__law_come.ok G__law_come (hr.mono (by decide)) rfl C__law_come.m C__law_come.kp C__law_come.b (sa_cons (so_v 0 (pv 0)) (sa_cons (so_v 1 (pv 1)) (sa_cons (so_v 2 (pv 2)) sa_nil)))) sv_nil))))) sa_nil))))

abbrev s__law_walked : Stmt := topS 30
abbrev ns__law_walked : List Str := ["n", "cuts", "chords", "left", "come", "chord"]
theorem sc__law_walked : FnScope ns__law_walked ["n", "cuts", "chords"] (defScope s__law_walked) := ⟨rfl, rfl, rfl, by decide +kernel, rfl, by decide +kernel, by decide +kernel⟩

theorem d__law_walked {S__law_come : FSpec} {S__law_flipped : FSpec} (C__law_come : Cal P w K mg base 3 "_law_come" ["n", "cuts", "chord"] [] S__law_come) (C__law_flipped : Cal P w K mg base 4 "_law_flipped" ["n", "cuts", "chord"] [] S__law_flipped) {f : Addr} {cdv : Value} {A : Around} {outer : List Env} {s : Shared} {H : Hp} {E : XK} (hr : Room 4 (A.deeper (envOfC "_law_walked" (defScope s__law_walked) s.heap.objs.size f cdv))) : SSs (cx0 P w K mg base ns__law_walked "_law_walked" (defScope s__law_walked) f cdv A outer s H E) [2] (defBody s__law_walked) (w__law_walked S__law_come S__law_flipped) := by
  obtain ⟨f__law_come, fd__law_come, G__law_come, C__law_come⟩ := C__law_come
  obtain ⟨f__law_flipped, fd__law_flipped, G__law_flipped, C__law_flipped⟩ := C__law_flipped
  have nd := sc__law_walked.nd
  have hu := hu65 hr
  exact (sss_cons (ss_set (i := 3) nd rfl (by first | exact .inl rfl | exact .inr rfl) (by decide) (se_v 1 (pv 1)))
    (sss_cons (ss_set (i := 4) nd rfl (by first | exact .inl rfl | exact .inr rfl) (by decide) (se_lst sv_nil))
    (sss_cons (ss_forB (i := 2) rfl (by first | exact .inl rfl | exact .inr rfl) PassesOwn.never rfl (sg_n (by decide) (pg_name (i := 5) nd rfl (by first | exact .inl rfl | exact .inr rfl))) (sss_cons (ss_if (st_cmp (op_notinP hu) sd_in (so_v 5 (pv 5)) (so_v 3 (pv 3)) (by with_unfolding_all rfl)) (sss_one (ss_ret (se_lst (sv_cons se_non (sv_cons (se_v 4 (pv 4)) sv_nil))))) sss_nil)
    (sss_cons (ss_expr (se_app (pv 4) (se_call C__law_come.ok G__law_come (hr.mono (by decide)) rfl C__law_come.m C__law_come.kp C__law_come.b (sa_cons (so_v 0 (pv 0)) (sa_cons (so_v 3 (pv 3)) (sa_cons (so_v 5 (pv 5)) sa_nil))))))
    (sss_one (ss_set (i := 3) nd rfl (by first | exact .inl rfl | exact .inr rfl) (by decide) (se_call C__law_flipped.ok G__law_flipped (hr.mono (by decide)) rfl C__law_flipped.m C__law_flipped.kp C__law_flipped.b (sa_cons (so_v 0 (pv 0)) (sa_cons (so_v 3 (pv 3)) (sa_cons (so_v 5 (pv 5)) sa_nil)))))))))
    (sss_one (ss_ret (se_lst (sv_cons (se_v 3 (pv 3)) (sv_cons (se_v 4 (pv 4)) sv_nil))))))))

abbrev s_flipped : Stmt := topS 13
abbrev ns_flipped : List Str := ["n", "cuts", "chord"]
theorem sc_flipped : FnScope ns_flipped ["n", "cuts", "chord"] (defScope s_flipped) := ⟨rfl, rfl, rfl, by decide +kernel, rfl, by decide +kernel, by decide +kernel⟩

theorem d_flipped {S_with_flip : FSpec} (C_with_flip : Cal P w K mg base 3 "with_flip" ["n", "cuts", "chord"] [] S_with_flip) {f : Addr} {cdv : Value} {A : Around} {outer : List Env} {s : Shared} {H : Hp} {E : XK} (hr : Room 3 (A.deeper (envOfC "flipped" (defScope s_flipped) s.heap.objs.size f cdv))) : SSs (cx0 P w K mg base ns_flipped "flipped" (defScope s_flipped) f cdv A outer s H E) [] (defBody s_flipped) (w_flipped S_with_flip) := by
  obtain ⟨f_with_flip, fd_with_flip, G_with_flip, C_with_flip⟩ := C_with_flip
  have nd := sc_flipped.nd
  have hu := hu65 hr
  exact (sss_cons (ss_if (st_cmp (op_notinP hu) sd_in (so_v 2 (pv 2)) (so_v 1 (pv 1)) (by with_unfolding_all rfl)) (sss_one ss_never) sss_nil)
    (sss_one (ss_ret (se_call C_with_flip.ok G_with_flip (hr.mono (by decide)) rfl C_with_flip.m C_with_flip.kp C_with_flip.b (sa_cons (so_v 0 (pv 0)) (sa_cons (so_v 1 (pv 1)) (sa_cons (so_v 2 (pv 2)) sa_nil)))))))

abbrev s__law_whole : Stmt := topS 20
abbrev ns__law_whole : List Str := ["value"]
theorem sc__law_whole : FnScope ns__law_whole ["value"] (defScope s__law_whole) := ⟨rfl, rfl, rfl, by decide +kernel, rfl, by decide +kernel, by decide +kernel⟩

theorem d__law_whole (m_isinstance : mg "isinstance" = none) (m_bool : mg "bool" = none) (m_int : mg "int" = none) {f : Addr} {cdv : Value} {A : Around} {outer : List Env} {s : Shared} {H : Hp} {E : XK} (hr : Room 0 (A.deeper (envOfC "_law_whole" (defScope s__law_whole) s.heap.objs.size f cdv))) : SSs (cx0 P w K mg base ns__law_whole "_law_whole" (defScope s__law_whole) f cdv A outer s H E) [] (defBody s__law_whole) (w__law_whole) := by
  have nd := sc__law_whole.nd
  have hu := hu65 hr
  exact (sss_one (ss_ret (se_and (se_isi (T := "int") (by decide) rfl m_isinstance rfl m_int (by decide +kernel) (so_v 0 (pv 0))) (se_one (se_not (se_isi (T := "bool") (by decide) rfl m_isinstance rfl m_bool (by decide +kernel) (so_v 0 (pv 0))))))))

abbrev s__law_chords_same : Stmt := topS 27
abbrev ns__law_chords_same : List Str := ["told", "due", "at", "pair"]
theorem sc__law_chords_same : FnScope ns__law_chords_same ["told", "due"] (defScope s__law_chords_same) := ⟨rfl, rfl, rfl, by decide +kernel, rfl, by decide +kernel, by decide +kernel⟩

theorem d__law_chords_same {S__law_whole : FSpec} (C__law_whole : Cal P w K mg base 1 "_law_whole" ["value"] [] S__law_whole) (m_len : mg "len" = none) (m_isinstance : mg "isinstance" = none) (m_list : mg "list" = none) (m_range : mg "range" = none) (m_tuple : mg "tuple" = none) {f : Addr} {cdv : Value} {A : Around} {outer : List Env} {s : Shared} {H : Hp} {E : XK} (hr : Room 1 (A.deeper (envOfC "_law_chords_same" (defScope s__law_chords_same) s.heap.objs.size f cdv))) : SSs (cx0 P w K mg base ns__law_chords_same "_law_chords_same" (defScope s__law_chords_same) f cdv A outer s H E) [] (defBody s__law_chords_same) (w__law_chords_same S__law_whole) := by
  obtain ⟨f__law_whole, fd__law_whole, G__law_whole, C__law_whole⟩ := C__law_whole
  have nd := sc__law_chords_same.nd
  have hu := hu65 hr
  exact (sss_cons (ss_if (sw_st (sw_or (st_not (st_of (se_isi (T := "list") (by decide) rfl m_isinstance rfl m_list (by decide +kernel) (so_v 0 (pv 0))))) (sw_or1 (st_cmp (op_neP hu) sd_ne (so_e (se_callB call_lenB sd_len rfl m_len (by decide +kernel) (sa_cons (so_v 0 (pv 0)) sa_nil))) (so_e (se_callB call_lenB sd_len rfl m_len (by decide +kernel) (sa_cons (so_v 1 (pv 1)) sa_nil))) (nomark _))))) (sss_one (ss_ret se_bl)) sss_nil)
    (sss_cons (ss_for PassesOwn.never rfl (si_range1 rfl m_range (so_e (se_callB call_lenB sd_len rfl m_len (by decide +kernel) (sa_cons (so_v 1 (pv 1)) sa_nil)))) (sg_n (by decide) (pg_name (i := 2) nd rfl (by first | exact .inl rfl | exact .inr rfl))) (sss_cons (ss_set (i := 3) nd rfl (by first | exact .inl rfl | exact .inr rfl) (by decide) (se_ix ix_seq sd_ix (so_v 0 (pv 0)) (so_v 2 (pv 2)) (fun _ _ => rfl)))
    (sss_cons (ss_if (sw_st (sw_or (st_not (st_of (se_isi (T := "tuple") (by decide) rfl m_isinstance rfl m_tuple (by decide +kernel) (so_v 3 (pv 3))))) (sw_or1 (st_cmp (op_neP hu) sd_ne (so_e (se_callB call_lenB sd_len rfl m_len (by decide +kernel) (sa_cons (so_v 3 (pv 3)) sa_nil))) (so_e se_int) (nomark _))))) (sss_one (ss_ret se_bl)) sss_nil)
    (sss_one (ss_if (sw_st (sw_or (st_not (st_of (se_call C__law_whole.ok G__law_whole (hr.mono (by decide)) rfl C__law_whole.m C__law_whole.kp C__law_whole.b (sa_cons (so_e (se_ix ix_seq sd_ix (so_v 3 (pv 3)) (so_e se_int) (fun _ _ => rfl))) sa_nil)))) (sw_or (st_not (st_of (se_call C__law_whole.ok G__law_whole (hr.mono (by decide)) rfl C__law_whole.m C__law_whole.kp C__law_whole.b (sa_cons (so_e (se_ix ix_seq sd_ix (so_v 3 (pv 3)) (so_e se_int) (fun _ _ => rfl))) sa_nil)))) (sw_or1 (st_cmp (op_neP hu) sd_ne (so_v 3 (pv 3)) (so_e (se_ix ix_seq sd_ix (so_v 1 (pv 1)) (so_v 2 (pv 2)) (fun _ _ => rfl))) (nomark _)))))) (sss_one (ss_ret se_bl)) sss_nil)))))
    (sss_one (ss_ret se_bl))))

abbrev s__law_way : Stmt := topS 29
abbrev ns__law_way : List Str := ["n", "cuts", "gone", "come", "left", "turn", "ready", "chord"]
theorem sc__law_way : FnScope ns__law_way ["n", "cuts"] (defScope s__law_way) := ⟨rfl, rfl, rfl, by decide +kernel, rfl, by decide +kernel, by decide +kernel⟩

theorem d__law_way {S__law_come : FSpec} {S__law_flipped : FSpec} (C__law_come : Cal P w K mg base 3 "_law_come" ["n", "cuts", "chord"] [] S__law_come) (C__law_flipped : Cal P w K mg base 4 "_law_flipped" ["n", "cuts", "chord"] [] S__law_flipped) (m_range : mg "range" = none) (m_len : mg "len" = none) {f : Addr} {cdv : Value} {A : Around} {outer : List Env} {s : Shared} {H : Hp} {E : XK} (hr : Room 4 (A.deeper (envOfC "_law_way" (defScope s__law_way) s.heap.objs.size f cdv))) : SSs (cx0 P w K mg base ns__law_way "_law_way" (defScope s__law_way) f cdv A outer s H E) [] (defBody s__law_way) (w__law_way S__law_come S__law_flipped) := by
  obtain ⟨f__law_come, fd__law_come, G__law_come, C__law_come⟩ := C__law_come
  obtain ⟨f__law_flipped, fd__law_flipped, G__law_flipped, C__law_flipped⟩ := C__law_flipped
  have nd := sc__law_way.nd
  have hu := hu65 hr
  exact (sss_cons (ss_set (i := 2) nd rfl (by first | exact .inl rfl | exact .inr rfl) (by decide) (se_lst sv_nil))
    (sss_cons (ss_set (i := 3) nd rfl (by first | exact .inl rfl | exact .inr rfl) (by decide) (se_lst sv_nil))
    (sss_cons (ss_set (i := 4) nd rfl (by first | exact .inl rfl | exact .inr rfl) (by decide) (se_v 1 (pv 1)))
    (sss_cons (ss_for PassesOwn.never rfl (si_range1 rfl m_range (so_v 0 (pv 0))) (sg_n (by decide) (pg_name (i := 5) nd rfl (by first | exact .inl rfl | exact .inr rfl))) (sss_cons (ss_setLc (i := 6) (n := 8) rfl nd rfl rfl rfl rfl (by decide) (sw_true rfl rfl rfl (by decide +kernel)) (si_seq (se_v 4 (pv 4))) (blkOk_by (own := [("chord", 7)]) (N := ns__law_way) (sc := defScope s__law_way) (by decide +kernel)) (fun _ _ _ _ _ => (sg_n (by decide) (pg_name (i := 7) nd rfl (by first | exact .inl rfl | exact .inr rfl)))) (fun _ _ _ _ _ => (sts_one (sw_st (sw_and (st_cmp op_gt sd_cmp (so_e (se_ix ix_seq sd_ix (so_v 7 (pv 7)) (so_e se_int) (fun _ _ => rfl))) (so_e se_int) (nomark _)) (sw_and1 (st_cmp (op_eqP hu) sd_eq (so_e (se_ix ix_seq sd_ix (so_e (se_call C__law_come.ok G__law_come (hr.mono (by decide)) rfl C__law_come.m C__law_come.kp C__law_come.b (sa_cons (so_v 0 (pv 0)) (sa_cons (so_v 4 (pv 4)) (sa_cons (so_v 7 (pv 7)) sa_nil))))) (so_e se_int) (fun _ _ => rfl))) (so_e se_int) (nomark _))))))) (fun _ _ _ _ _ => (se_v 7 (pv 7))))
    (sss_one (ss_if (st_cmp op_gt sd_cmp (so_e (se_callB call_lenB sd_len rfl m_len (by decide +kernel) (sa_cons (so_v 6 (pv 6)) sa_nil))) (so_e se_int) (nomark _)) (sss_cons (ss_expr (se_app (pv 2) (se_ix ix_seq sd_ix (so_v 6 (pv 6)) (so_e se_int) (fun _ _ => rfl))))
    (sss_cons (ss_expr (se_app (pv 3) (se_call C__law_come.ok G__law_come (hr.mono (by decide)) rfl C__law_come.m C__law_come.kp C__law_come.b (sa_cons (so_v 0 (pv 0)) (sa_cons (so_v 4 (pv 4)) (sa_cons (so_e (se_ix ix_seq sd_ix (so_v 6 (pv 6)) (so_e se_int) (fun _ _ => rfl))) sa_nil))))))
    (sss_one (ss_set (i := 4) nd rfl (by first | exact .inl rfl | exact .inr rfl) (by decide) (se_call C__law_flipped.ok G__law_flipped (hr.mono (by decide)) rfl C__law_flipped.m C__law_flipped.kp C__law_flipped.b (sa_cons (so_v 0 (pv 0)) (sa_cons (so_v 4 (pv 4)) (sa_cons (so_e (se_ix ix_seq sd_ix (so_v 6 (pv 6)) (so_e se_int) (fun _ _ => rfl))) sa_nil)))))))) sss_nil))))
    (sss_one (ss_ret (se_lst (sv_cons (se_v 2 (pv 2)) (sv_cons (se_v 3 (pv 3)) sv_nil)))))))))

abbrev s__law_yes : Stmt := topS 28
abbrev ns__law_yes : List Str := ["told", "due"]
theorem sc__law_yes : FnScope ns__law_yes ["told", "due"] (defScope s__law_yes) := ⟨rfl, rfl, rfl, by decide +kernel, rfl, by decide +kernel, by decide +kernel⟩

theorem d__law_yes (m_isinstance : mg "isinstance" = none) (m_bool : mg "bool" = none) {f : Addr} {cdv : Value} {A : Around} {outer : List Env} {s : Shared} {H : Hp} {E : XK} (hr : Room 0 (A.deeper (envOfC "_law_yes" (defScope s__law_yes) s.heap.objs.size f cdv))) : SSs (cx0 P w K mg base ns__law_yes "_law_yes" (defScope s__law_yes) f cdv A outer s H E) [] (defBody s__law_yes) (w__law_yes) := by
  have nd := sc__law_yes.nd
  have hu := hu65 hr
  exact (sss_one (ss_ret (se_and (se_isi (T := "bool") (by decide) rfl m_isinstance rfl m_bool (by decide +kernel) (so_v 0 (pv 0))) (se_one (se_cmp (op_eqP hu) sd_eq (so_v 0 (pv 0)) (so_v 1 (pv 1)) (nomark _))))))

abbrev s_flip_of : Stmt := topS 12
abbrev ns_flip_of : List Str := ["n", "cuts", "chord"]
theorem sc_flip_of : FnScope ns_flip_of ["n", "cuts", "chord"] (defScope s_flip_of) := ⟨rfl, rfl, rfl, by decide +kernel, rfl, by decide +kernel, by decide +kernel⟩

theorem d_flip_of {S_other_chord : FSpec} (C_other_chord : Cal P w K mg base 2 "other_chord" ["n", "cuts", "chord"] [] S_other_chord) {f : Addr} {cdv : Value} {A : Around} {outer : List Env} {s : Shared} {H : Hp} {E : XK} (hr : Room 2 (A.deeper (envOfC "flip_of" (defScope s_flip_of) s.heap.objs.size f cdv))) : SSs (cx0 P w K mg base ns_flip_of "flip_of" (defScope s_flip_of) f cdv A outer s H E) [] (defBody s_flip_of) (w_flip_of S_other_chord) := by
  obtain ⟨f_other_chord, fd_other_chord, G_other_chord, C_other_chord⟩ := C_other_chord
  have nd := sc_flip_of.nd
  have hu := hu65 hr
  exact (sss_cons (ss_if (st_cmp (op_notinP hu) sd_in (so_v 2 (pv 2)) (so_v 1 (pv 1)) (by with_unfolding_all rfl)) (sss_one ss_never) sss_nil)
    (sss_one (ss_ret (se_call C_other_chord.ok G_other_chord (hr.mono (by decide)) rfl C_other_chord.m C_other_chord.kp C_other_chord.b (sa_cons (so_v 0 (pv 0)) (sa_cons (so_v 1 (pv 1)) (sa_cons (so_v 2 (pv 2)) sa_nil)))))))

abbrev s_is_whole : Stmt := topS 4
abbrev ns_is_whole : List Str := ["value"]
theorem sc_is_whole : FnScope ns_is_whole ["value"] (defScope s_is_whole) := ⟨rfl, rfl, rfl, by decide +kernel, rfl, by decide +kernel, by decide +kernel⟩

theorem d_is_whole (m_isinstance : mg "isinstance" = none) (m_bool : mg "bool" = none) (m_int : mg "int" = none) {f : Addr} {cdv : Value} {A : Around} {outer : List Env} {s : Shared} {H : Hp} {E : XK} (hr : Room 0 (A.deeper (envOfC "is_whole" (defScope s_is_whole) s.heap.objs.size f cdv))) : SSs (cx0 P w K mg base ns_is_whole "is_whole" (defScope s_is_whole) f cdv A outer s H E) [] (defBody s_is_whole) (w_is_whole) := by
  have nd := sc_is_whole.nd
  have hu := hu65 hr
  exact (sss_one (ss_ret (se_and (se_isi (T := "int") (by decide) rfl m_isinstance rfl m_int (by decide +kernel) (so_v 0 (pv 0))) (se_one (se_not (se_isi (T := "bool") (by decide) rfl m_isinstance rfl m_bool (by decide +kernel) (so_v 0 (pv 0))))))))

abbrev s_is_whole_tuple : Stmt := topS 5
abbrev ns_is_whole_tuple : List Str := ["value", "many", "number"]
theorem sc_is_whole_tuple : FnScope ns_is_whole_tuple ["value", "many"] (defScope s_is_whole_tuple) := ⟨rfl, rfl, rfl, by decide +kernel, rfl, by decide +kernel, by decide +kernel⟩

theorem d_is_whole_tuple {S_is_whole : FSpec} (C_is_whole : Cal P w K mg base 1 "is_whole" ["value"] [] S_is_whole) (m_len : mg "len" = none) (m_isinstance : mg "isinstance" = none) (m_tuple : mg "tuple" = none) (m_all : mg "all" = none) {f : Addr} {cdv : Value} {A : Around} {outer : List Env} {s : Shared} {H : Hp} {E : XK} (hr : Room 1 (A.deeper (envOfC "is_whole_tuple" (defScope s_is_whole_tuple) s.heap.objs.size f cdv))) : SSs (cx0 P w K mg base ns_is_whole_tuple "is_whole_tuple" (defScope s_is_whole_tuple) f cdv A outer s H E) [] (defBody s_is_whole_tuple) (w_is_whole_tuple S_is_whole) := by
  obtain ⟨f_is_whole, fd_is_whole, G_is_whole, C_is_whole⟩ := C_is_whole
  have nd := sc_is_whole_tuple.nd
  have hu := hu65 hr
  exact (sss_cons (ss_if (sw_st (sw_or (st_not (st_of (se_isi (T := "tuple") (by decide) rfl m_isinstance rfl m_tuple (by decide +kernel) (so_v 0 (pv 0))))) (sw_or1 (st_cmp (op_neP hu) sd_ne (so_e (se_callB call_lenB sd_len rfl m_len (by decide +kernel) (sa_cons (so_v 0 (pv 0)) sa_nil))) (so_v 1 (pv 1)) (nomark _))))) (sss_one (ss_ret se_bl)) sss_nil)
    (sss_one (ss_ret (se_callB (cr_all rfl) sd_all rfl m_all (by decide +kernel) (sa_cons (so_e (se_lc (n := 3) rfl nd rfl rfl (si_seq (se_v 0 (pv 0))) (blkOk_by (own := [("number", 2)]) (N := ns_is_whole_tuple) (sc := defScope s_is_whole_tuple) (by decide +kernel)) (fun _ _ _ _ _ => (sg_n (by decide) (pg_name (i := 2) nd rfl (by first | exact .inl rfl | exact .inr rfl)))) (fun _ _ _ _ _ => sts_nil) (fun _ _ _ _ _ => (se_call C_is_whole.ok G_is_whole (hr.mono (by decide)) rfl C_is_whole.m C_is_whole.kp C_is_whole.b (sa_cons (so_v 2 (pv 2)) sa_nil))))) sa_nil)))))

abbrev s_are_pairs : Stmt := topS 7
abbrev ns_are_pairs : List Str := ["value", "pair"]
theorem sc_are_pairs : FnScope ns_are_pairs ["value"] (defScope s_are_pairs) := ⟨rfl, rfl, rfl, by decide +kernel, rfl, by decide +kernel, by decide +kernel⟩

theorem d_are_pairs {S_is_whole_tuple : FSpec} (C_is_whole_tuple : Cal P w K mg base 2 "is_whole_tuple" ["value", "many"] [] S_is_whole_tuple) (m_all : mg "all" = none) (m_isinstance : mg "isinstance" = none) (m_list : mg "list" = none) {f : Addr} {cdv : Value} {A : Around} {outer : List Env} {s : Shared} {H : Hp} {E : XK} (hr : Room 2 (A.deeper (envOfC "are_pairs" (defScope s_are_pairs) s.heap.objs.size f cdv))) : SSs (cx0 P w K mg base ns_are_pairs "are_pairs" (defScope s_are_pairs) f cdv A outer s H E) [] (defBody s_are_pairs) (w_are_pairs S_is_whole_tuple) := by
  obtain ⟨f_is_whole_tuple, fd_is_whole_tuple, G_is_whole_tuple, C_is_whole_tuple⟩ := C_is_whole_tuple
  have nd := sc_are_pairs.nd
  have hu := hu65 hr
  exact (sss_one (ss_ret (se_and (se_isi (T := "list") (by decide) rfl m_isinstance rfl m_list (by decide +kernel) (so_v 0 (pv 0))) (se_one (se_callB (cr_all rfl) sd_all rfl m_all (by decide +kernel) (sa_cons (so_e (se_lc (n := 2) rfl nd rfl rfl (si_seq (se_v 0 (pv 0))) (blkOk_by (own := [("pair", 1)]) (N := ns_are_pairs) (sc := defScope s_are_pairs) (by decide +kernel)) (fun _ _ _ _ _ => (sg_n (by decide) (pg_name (i := 1) nd rfl (by first | exact .inl rfl | exact .inr rfl)))) (fun _ _ _ _ _ => sts_nil) (fun _ _ _ _ _ => (se_call C_is_whole_tuple.ok G_is_whole_tuple (hr.mono (by decide)) rfl C_is_whole_tuple.m C_is_whole_tuple.kp C_is_whole_tuple.b (sa_cons (so_v 1 (pv 1)) (sa_cons (so_e se_int) sa_nil)))))) sa_nil))))))

abbrev s_shows_flips : Stmt := topS 16
abbrev ns_shows_flips : List Str := ["n", "cuts", "goal", "chords", "left", "chord"]
theorem sc_shows_flips : FnScope ns_shows_flips ["n", "cuts", "goal", "chords"] (defScope s_shows_flips) := ⟨rfl, rfl, rfl, by decide +kernel, rfl, by decide +kernel, by decide +kernel⟩

theorem d_shows_flips {S_are_pairs : FSpec} {S_with_flip : FSpec} (C_are_pairs : Cal P w K mg base 3 "are_pairs" ["value"] [] S_are_pairs) (C_with_flip : Cal P w K mg base 3 "with_flip" ["n", "cuts", "chord"] [] S_with_flip) (m_list : mg "list" = none) {f : Addr} {cdv : Value} {A : Around} {outer : List Env} {s : Shared} {H : Hp} {E : XK} (hr : Room 3 (A.deeper (envOfC "shows_flips" (defScope s_shows_flips) s.heap.objs.size f cdv))) : SSs (cx0 P w K mg base ns_shows_flips "shows_flips" (defScope s_shows_flips) f cdv A outer s H E) [] (defBody s_shows_flips) (w_shows_flips S_are_pairs S_with_flip) := by
  obtain ⟨f_are_pairs, fd_are_pairs, G_are_pairs, C_are_pairs⟩ := C_are_pairs
  obtain ⟨f_with_flip, fd_with_flip, G_with_flip, C_with_flip⟩ := C_with_flip
  have nd := sc_shows_flips.nd
  have hu := hu65 hr
  exact (sss_cons (ss_if (st_not (st_of (se_call C_are_pairs.ok G_are_pairs (hr.mono (by decide)) rfl C_are_pairs.m C_are_pairs.kp C_are_pairs.b (sa_cons (so_v 3 (pv 3)) sa_nil)))) (sss_one (ss_ret se_bl)) sss_nil)
    (sss_cons (ss_set (i := 4) nd rfl (by first | exact .inl rfl | exact .inr rfl) (by decide) (se_callTy call_list_of sd_list rfl m_list (by decide +kernel) (sa_cons (so_v 1 (pv 1)) sa_nil)))
    (sss_cons (ss_for PassesOwn.never rfl (si_seq (se_v 3 (pv 3))) (sg_n (by decide) (pg_name (i := 5) nd rfl (by first | exact .inl rfl | exact .inr rfl))) (sss_cons (ss_if (st_cmp (op_notinP hu) sd_in (so_v 5 (pv 5)) (so_v 4 (pv 4)) (by with_unfolding_all rfl)) (sss_one (ss_ret se_bl)) sss_nil)
    (sss_one (ss_set (i := 4) nd rfl (by first | exact .inl rfl | exact .inr rfl) (by decide) (se_call C_with_flip.ok G_with_flip (hr.mono (by decide)) rfl C_with_flip.m C_with_flip.kp C_with_flip.b (sa_cons (so_v 0 (pv 0)) (sa_cons (so_v 4 (pv 4)) (sa_cons (so_v 5 (pv 5)) sa_nil))))))))
    (sss_one (ss_ret (se_cmp (op_eqP hu) sd_eq (so_v 4 (pv 4)) (so_v 2 (pv 2)) (nomark _)))))))

abbrev s__law_lead_right : Stmt := topS 31
abbrev ns__law_lead_right : List Str := ["n", "cuts", "goal", "due", "handed", "told", "walked", "chord", "back", "left", "at"]
theorem sc__law_lead_right : FnScope ns__law_lead_right ["n", "cuts", "goal"] (defScope s__law_lead_right) := ⟨rfl, rfl, rfl, by decide +kernel, rfl, by decide +kernel, by decide +kernel⟩

theorem d__law_lead_right {S__law_way : FSpec} {S_lead_over : FSpec} {S__law_chords_same : FSpec} {S__law_walked : FSpec} {S__law_yes : FSpec} {S_shows_flips : FSpec} {S_flip_of : FSpec} {S_flipped : FSpec} (C__law_way : Cal P w K mg base 5 "_law_way" ["n", "cuts"] [] S__law_way) (C_lead_over : Cal P w K mg base 5 "lead_over" ["n", "cuts", "goal"] [] S_lead_over) (C__law_chords_same : Cal P w K mg base 2 "_law_chords_same" ["told", "due"] [] S__law_chords_same) (C__law_walked : Cal P w K mg base 5 "_law_walked" ["n", "cuts", "chords"] [2] S__law_walked) (C__law_yes : Cal P w K mg base 1 "_law_yes" ["told", "due"] [] S__law_yes) (C_shows_flips : Cal P w K mg base 4 "shows_flips" ["n", "cuts", "goal", "chords"] [] S_shows_flips) (C_flip_of : Cal P w K mg base 3 "flip_of" ["n", "cuts", "chord"] [] S_flip_of) (C_flipped : Cal P w K mg base 4 "flipped" ["n", "cuts", "chord"] [] S_flipped) (m_list : mg "list" = none) (m_len : mg "len" = none) (m_range : mg "range" = none) {f : Addr} {cdv : Value} {A : Around} {outer : List Env} {s : Shared} {H : Hp} {E : XK} (hr : Room 5 (A.deeper (envOfC "_law_lead_right" (defScope s__law_lead_right) s.heap.objs.size f cdv))) : SSs (cx0 P w K mg base ns__law_lead_right "_law_lead_right" (defScope s__law_lead_right) f cdv A outer s H E) [] (defBody s__law_lead_right) (w__law_lead_right S__law_way S_lead_over S__law_chords_same S__law_walked S__law_yes S_shows_flips S_flip_of S_flipped) := by
  obtain ⟨f__law_way, fd__law_way, G__law_way, C__law_way⟩ := C__law_way
  obtain ⟨f_lead_over, fd_lead_over, G_lead_over, C_lead_over⟩ := C_lead_over
  obtain ⟨f__law_chords_same, fd__law_chords_same, G__law_chords_same, C__law_chords_same⟩ := C__law_chords_same
  obtain ⟨f__law_walked, fd__law_walked, G__law_walked, C__law_walked⟩ := C__law_walked
  obtain ⟨f__law_yes, fd__law_yes, G__law_yes, C__law_yes⟩ := C__law_yes
  obtain ⟨f_shows_flips, fd_shows_flips, G_shows_flips, C_shows_flips⟩ := C_shows_flips
  obtain ⟨f_flip_of, fd_flip_of, G_flip_of, C_flip_of⟩ := C_flip_of
  obtain ⟨f_flipped, fd_flipped, G_flipped, C_flipped⟩ := C_flipped
  have nd := sc__law_lead_right.nd
  have hu := hu65 hr
  exact (sss_cons (ss_set (i := 3) nd rfl (by first | exact .inl rfl | exact .inr rfl) (by decide) (se_op op_addT sd_add (so_e (se_ix ix_seq sd_ix (so_e (se_call C__law_way.ok G__law_way (hr.mono (by decide)) rfl C__law_way.m C__law_way.kp C__law_way.b (sa_cons (so_v 0 (pv 0)) (sa_cons (so_v 1 (pv 1)) sa_nil)))) (so_e se_int) (fun _ _ => rfl))) (so_e (se_revL (so_e (se_ix ix_seq sd_ix (so_e (se_call C__law_way.ok G__law_way (hr.mono (by decide)) rfl C__law_way.m C__law_way.kp C__law_way.b (sa_cons (so_v 0 (pv 0)) (sa_cons (so_v 2 (pv 2)) sa_nil)))) (so_e se_int) (fun _ _ => rfl)))))))
    (sss_cons (ss_set (i := 4) nd rfl (by first | exact .inl rfl | exact .inr rfl) (by decide) (se_fz (se_lst (sv_cons (se_callTy call_list_of sd_list rfl m_list (by decide +kernel) (sa_cons (so_v 1 (pv 1)) sa_nil)) (sv_cons (se_callTy call_list_of sd_list rfl m_list (by decide +kernel) (sa_cons (so_v 2 (pv 2)) sa_nil)) sv_nil)))))
    (sss_cons (ss_set (i := 5) nd rfl (by first | exact .inl rfl | exact .inr rfl) (by decide) (se_call C_lead_over.ok G_lead_over (hr.mono (by decide)) rfl C_lead_over.m C_lead_over.kp C_lead_over.b (sa_cons (so_v 0 (pv 0)) (sa_cons (so_e (se_ix ix_seq sd_ix (so_v 4 (pv 4)) (so_e se_int) (fun _ _ => rfl))) (sa_cons (so_e (se_ix ix_seq sd_ix (so_v 4 (pv 4)) (so_e se_int) (fun _ _ => rfl))) sa_nil)))))
    (sss_cons (ss_if (sw_st (sw_or (st_not (st_of (se_call C__law_chords_same.ok G__law_chords_same (hr.mono (by decide)) rfl C__law_chords_same.m C__law_chords_same.kp C__law_chords_same.b (sa_cons (so_v 5 (pv 5)) (sa_cons (so_v 3 (pv 3)) sa_nil))))) (sw_or1 (st_cmp (op_neP hu) sd_ne (so_v 4 (pv 4)) (so_e (se_lst (sv_cons (se_v 1 (pv 1)) (sv_cons (se_v 2 (pv 2)) sv_nil)))) (nomark _))))) (sss_one (ss_ret se_bl)) sss_nil)
    (sss_cons (ss_set (i := 6) nd rfl (by first | exact .inl rfl | exact .inr rfl) (by decide) (se_fz (se_callL (i0 := 0) (i1 := 1) (i2 := 5) C__law_walked.ok G__law_walked (hr.mono (by decide)) rfl C__law_walked.m C__law_walked.kp C__law_walked.b (pv 0) (pv 1) (pv 5))))
    (sss_cons (ss_if (st_cmp (op_neP hu) sd_ne (so_e (se_ix ix_seq sd_ix (so_v 6 (pv 6)) (so_e se_int) (fun _ _ => rfl))) (so_v 2 (pv 2)) (nomark _)) (sss_one (ss_ret se_bl)) sss_nil)
    (sss_cons (ss_if (st_cmp (op_neP hu) sd_ne (so_e (se_callB call_lenB sd_len rfl m_len (by decide +kernel) (sa_cons (so_v 5 (pv 5)) sa_nil))) (so_e (se_callB call_lenB sd_len rfl m_len (by decide +kernel) (sa_cons (so_e (se_lc (n := 11) rfl nd rfl rfl (si_seq (se_op op_addT sd_add (so_v 1 (pv 1)) (so_v 2 (pv 2)))) (blkOk_by (own := [("chord", 7)]) (N := ns__law_lead_right) (sc := defScope s__law_lead_right) (by decide +kernel)) (fun _ _ _ _ _ => (sg_n (by decide) (pg_name (i := 7) nd rfl (by first | exact .inl rfl | exact .inr rfl)))) (fun _ _ _ _ _ => (sts_one (st_cmp op_gt sd_cmp (so_e (se_ix ix_seq sd_ix (so_v 7 (pv 7)) (so_e se_int) (fun _ _ => rfl))) (so_e se_int) (nomark _)))) (fun _ _ _ _ _ => (se_v 7 (pv 7))))) sa_nil))) (nomark _)) (sss_one (ss_ret se_bl)) sss_nil)
    (sss_cons (ss_if (sw_st (sw_or (st_not (st_of (se_call C__law_yes.ok G__law_yes (hr.mono (by decide)) rfl C__law_yes.m C__law_yes.kp C__law_yes.b (sa_cons (so_e (se_call C_shows_flips.ok G_shows_flips (hr.mono (by decide)) rfl C_shows_flips.m C_shows_flips.kp C_shows_flips.b (sa_cons (so_v 0 (pv 0)) (sa_cons (so_e (se_ix ix_seq sd_ix (so_v 4 (pv 4)) (so_e se_int) (fun _ _ => rfl))) (sa_cons (so_e (se_ix ix_seq sd_ix (so_v 4 (pv 4)) (so_e se_int) (fun _ _ => rfl))) (sa_cons (so_e (se_callTy call_list_of sd_list rfl m_list (by decide +kernel) (sa_cons (so_v 3 (pv 3)) sa_nil))) sa_nil)))))) (sa_cons (so_e se_bl) sa_nil))))) (sw_or1 (st_cmp (op_neP hu) sd_ne (so_v 4 (pv 4)) (so_e (se_lst (sv_cons (se_v 1 (pv 1)) (sv_cons (se_v 2 (pv 2)) sv_nil)))) (nomark _))))) (sss_one (ss_ret se_bl)) sss_nil)
    (sss_cons (ss_set (i := 8) nd rfl (by first | exact .inl rfl | exact .inr rfl) (by decide) (se_revL (so_e (se_ix ix_seq sd_ix (so_v 6 (pv 6)) (so_e se_int) (fun _ _ => rfl)))))
    (sss_cons (ss_if (sw_st (sw_or (st_cmp (op_neP hu) sd_ne (so_e (se_ix ix_seq sd_ix (so_e (se_callL (i0 := 0) (i1 := 2) (i2 := 8) C__law_walked.ok G__law_walked (hr.mono (by decide)) rfl C__law_walked.m C__law_walked.kp C__law_walked.b (pv 0) (pv 2) (pv 8))) (so_e se_int) (fun _ _ => rfl))) (so_v 1 (pv 1)) (nomark _)) (sw_or1 (st_not (st_of (se_call C__law_yes.ok G__law_yes (hr.mono (by decide)) rfl C__law_yes.m C__law_yes.kp C__law_yes.b (sa_cons (so_e (se_call C_shows_flips.ok G_shows_flips (hr.mono (by decide)) rfl C_shows_flips.m C_shows_flips.kp C_shows_flips.b (sa_cons (so_v 0 (pv 0)) (sa_cons (so_e (se_callTy call_list_of sd_list rfl m_list (by decide +kernel) (sa_cons (so_v 2 (pv 2)) sa_nil))) (sa_cons (so_e (se_callTy call_list_of sd_list rfl m_list (by decide +kernel) (sa_cons (so_v 1 (pv 1)) sa_nil))) (sa_cons (so_v 8 (pv 8)) sa_nil)))))) (sa_cons (so_e se_bl) sa_nil)))))))) (sss_one (ss_ret se_bl)) sss_nil)
    (sss_cons (ss_set (i := 9) nd rfl (by first | exact .inl rfl | exact .inr rfl) (by decide) (se_callTy call_list_of sd_list rfl m_list (by decide +kernel) (sa_cons (so_v 1 (pv 1)) sa_nil)))
    (sss_cons (ss_for PassesOwn.never rfl (si_range1 rfl m_range (so_e (se_callB call_lenB sd_len rfl m_len (by decide +kernel) (sa_cons (so_v 3 (pv 3)) sa_nil)))) (sg_n (by decide) (pg_name (i := 10) nd rfl (by first | exact .inl rfl | exact .inr rfl))) (sss_cons (ss_if (st_cmp (op_neP hu) sd_ne (so_e (se_call C_flip_of.ok G_flip_of (hr.mono (by decide)) rfl C_flip_of.m C_flip_of.kp C_flip_of.b (sa_cons (so_v 0 (pv 0)) (sa_cons (so_e (se_callTy call_list_of sd_list rfl m_list (by decide +kernel) (sa_cons (so_v 9 (pv 9)) sa_nil))) (sa_cons (so_e (se_ix ix_seq sd_ix (so_v 3 (pv 3)) (so_v 10 (pv 10)) (fun _ _ => rfl))) sa_nil))))) (so_e (se_k (sk_ix (sk_ix (sk_v 6 (pv 6)) sk_int (fun _ _ => rfl)) (sk_v 10 (pv 10)) (fun _ _ => rfl)))) (nomark _)) (sss_one (ss_ret se_bl)) sss_nil)
    (sss_one (ss_set (i := 9) nd rfl (by first | exact .inl rfl | exact .inr rfl) (by decide) (se_call C_flipped.ok G_flipped (hr.mono (by decide)) rfl C_flipped.m C_flipped.kp C_flipped.b (sa_cons (so_v 0 (pv 0)) (sa_cons (so_e (se_callTy call_list_of sd_list rfl m_list (by decide +kernel) (sa_cons (so_v 9 (pv 9)) sa_nil))) (sa_cons (so_e (se_ix ix_seq sd_ix (so_v 3 (pv 3)) (so_v 10 (pv 10)) (fun _ _ => rfl))) sa_nil))))))))
    (sss_cons (ss_expr (se_app (pv 5) (se_tup (sv_cons se_int (sv_cons se_int sv_nil)))))
    (sss_one (ss_ret (se_and (se_cmp (op_eqP hu) sd_eq (so_v 9 (pv 9)) (so_v 2 (pv 2)) (nomark _)) (se_one (se_call C__law_chords_same.ok G__law_chords_same (hr.mono (by decide)) rfl C__law_chords_same.m C__law_chords_same.kp C__law_chords_same.b (sa_cons (so_e (se_call C_lead_over.ok G_lead_over (hr.mono (by decide)) rfl C_lead_over.m C_lead_over.kp C_lead_over.b (sa_cons (so_v 0 (pv 0)) (sa_cons (so_e (se_callTy call_list_of sd_list rfl m_list (by decide +kernel) (sa_cons (so_v 1 (pv 1)) sa_nil))) (sa_cons (so_e (se_callTy call_list_of sd_list rfl m_list (by decide +kernel) (sa_cons (so_v 2 (pv 2)) sa_nil))) sa_nil))))) (sa_cons (so_v 3 (pv 3)) sa_nil))))))))))))))))))))

abbrev s_law : Stmt := topS 32
abbrev ns_law : List Str := ["script", "feed", "n", "cuts", "goal", "fan", "k", "pair"]
theorem sc_law : FnScope ns_law ["script"] (defScope s_law) := ⟨rfl, rfl, rfl, by decide +kernel, rfl, by decide +kernel, by decide +kernel⟩

theorem d_law {S__law_corners : FSpec} {S__law_cuts : FSpec} {S__law_lead_right : FSpec} {S_lead_over : FSpec} (C__law_corners : Cal P w K mg base 2 "_law_corners" ["feed", "most"] [0] S__law_corners) (C__law_cuts : Cal P w K mg base 2 "_law_cuts" ["feed", "n"] [0] S__law_cuts) (C__law_lead_right : Cal P w K mg base 6 "_law_lead_right" ["n", "cuts", "goal"] [] S__law_lead_right) (C_lead_over : Cal P w K mg base 5 "lead_over" ["n", "cuts", "goal"] [] S_lead_over) (m_range : mg "range" = none) (m_list : mg "list" = none) {f : Addr} {cdv : Value} {A : Around} {outer : List Env} {s : Shared} {H : Hp} {E : XK} (hr : Room 6 (A.deeper (envOfC "law" (defScope s_law) s.heap.objs.size f cdv))) : SSs (cx0 P w K mg base ns_law "law" (defScope s_law) f cdv A outer s H E) [] ((defBody s_law).tail) (w_law S__law_corners S__law_cuts S__law_lead_right S_lead_over) := by
  obtain ⟨f__law_corners, fd__law_corners, G__law_corners, C__law_corners⟩ := C__law_corners
  obtain ⟨f__law_cuts, fd__law_cuts, G__law_cuts, C__law_cuts⟩ := C__law_cuts
  obtain ⟨f__law_lead_right, fd__law_lead_right, G__law_lead_right, C__law_lead_right⟩ := C__law_lead_right
  obtain ⟨f_lead_over, fd_lead_over, G_lead_over, C_lead_over⟩ := C_lead_over
  have nd := sc_law.nd
  have hu := hu65 hr
  exact (sss_cons (ss_set (i := 2) nd rfl (by first | exact .inl rfl | exact .inr rfl) (by decide) (se_callIo C__law_corners.ok G__law_corners (hr.mono (by decide)) rfl C__law_corners.m C__law_corners.kp C__law_corners.b (sa_cons (so_v 1 (pv 1)) (sa_cons (so_e se_int) sa_nil))))
    (sss_cons (ss_set (i := 3) nd rfl (by first | exact .inl rfl | exact .inr rfl) (by decide) (se_callIo C__law_cuts.ok G__law_cuts (hr.mono (by decide)) rfl C__law_cuts.m C__law_cuts.kp C__law_cuts.b (sa_cons (so_v 1 (pv 1)) (sa_cons (so_v 2 (pv 2)) sa_nil))))
    (sss_cons (ss_set (i := 4) nd rfl (by first | exact .inl rfl | exact .inr rfl) (by decide) (se_callIo C__law_cuts.ok G__law_cuts (hr.mono (by decide)) rfl C__law_cuts.m C__law_cuts.kp C__law_cuts.b (sa_cons (so_v 1 (pv 1)) (sa_cons (so_v 2 (pv 2)) sa_nil))))
    (sss_cons (ss_setLc (i := 5) (n := 8) rfl nd rfl rfl rfl rfl (by decide) (sw_true rfl rfl rfl (by decide +kernel)) (si_range2 rfl m_range (so_e se_int) (so_e (se_op op_sub sd_sub (so_v 2 (pv 2)) (so_e se_int)))) (blkOk_by (own := [("k", 6)]) (N := ns_law) (sc := defScope s_law) (by decide +kernel)) (fun _ _ _ _ _ => (sg_n (by decide) (pg_name (i := 6) nd rfl (by first | exact .inl rfl | exact .inr rfl)))) (fun _ _ _ _ _ => sts_nil) (fun _ _ _ _ _ => (se_tup (sv_cons se_int (sv_cons (se_v 6 (pv 6)) sv_nil)))))
    (sss_cons (ss_for PassesOwn.never rfl (si_seq (se_lst (sv_cons (se_lst (sv_cons (se_v 3 (pv 3)) (sv_cons (se_v 4 (pv 4)) sv_nil))) (sv_cons (se_lst (sv_cons (se_v 4 (pv 4)) (sv_cons (se_v 3 (pv 3)) sv_nil))) (sv_cons (se_lst (sv_cons (se_v 3 (pv 3)) (sv_cons (se_v 5 (pv 5)) sv_nil))) (sv_cons (se_lst (sv_cons (se_v 5 (pv 5)) (sv_cons (se_v 4 (pv 4)) sv_nil))) (sv_cons (se_lst (sv_cons (se_v 3 (pv 3)) (sv_cons (se_v 3 (pv 3)) sv_nil))) sv_nil))))))) (sg_n (by decide) (pg_name (i := 7) nd rfl (by first | exact .inl rfl | exact .inr rfl))) (sss_one (ss_if (st_not (st_of (se_call C__law_lead_right.ok G__law_lead_right (hr.mono (by decide)) rfl C__law_lead_right.m C__law_lead_right.kp C__law_lead_right.b (sa_cons (so_v 2 (pv 2)) (sa_cons (so_e (se_ix ix_seq sd_ix (so_v 7 (pv 7)) (so_e se_int) (fun _ _ => rfl))) (sa_cons (so_e (se_ix ix_seq sd_ix (so_v 7 (pv 7)) (so_e se_int) (fun _ _ => rfl))) sa_nil)))))) (sss_one (ss_ret se_bl)) sss_nil)))
    (sss_cons (ss_if (st_cmp (op_neP hu) sd_ne (so_e (se_call C_lead_over.ok G_lead_over (hr.mono (by decide)) rfl C_lead_over.m C_lead_over.kp C_lead_over.b (sa_cons (so_v 2 (pv 2)) (sa_cons (so_e (se_callTy call_list_of sd_list rfl m_list (by decide +kernel) (sa_cons (so_v 5 (pv 5)) sa_nil))) (sa_cons (so_e (se_callTy call_list_of sd_list rfl m_list (by decide +kernel) (sa_cons (so_v 5 (pv 5)) sa_nil))) sa_nil))))) (so_e (se_lst sv_nil)) (nomark _)) (sss_one (ss_ret se_bl)) sss_nil)
    (sss_one (ss_ret (se_cmp (op_eqP hu) sd_eq (so_e (se_call C_lead_over.ok G_lead_over (hr.mono (by decide)) rfl C_lead_over.m C_lead_over.kp C_lead_over.b (sa_cons (so_e se_int) (sa_cons (so_e (se_lst (sv_cons (se_tup (sv_cons se_int (sv_cons se_int sv_nil))) (sv_cons (se_tup (sv_cons se_int (sv_cons se_int sv_nil))) sv_nil)))) (sa_cons (so_e (se_lst (sv_cons (se_tup (sv_cons se_int (sv_cons se_int sv_nil))) (sv_cons (se_tup (sv_cons se_int (sv_cons se_int sv_nil))) sv_nil)))) sa_nil))))) (so_e (se_lst (sv_cons (se_tup (sv_cons se_int (sv_cons se_int sv_nil))) (sv_cons (se_tup (sv_cons se_int (sv_cons se_int sv_nil))) (sv_cons (se_tup (sv_cons se_int (sv_cons se_int sv_nil))) sv_nil))))) (nomark _))))))))))

end

set_option maxHeartbeats 20000000 in
theorem all_mk {l : PySem.W.OpenLaw} {w : World} {K : PySem.W.Frag} {h : Heap} {mg : Str → Option Value} {fa f1 f2 f3 f4 f5 f6 f7 f8 f9 f10 f11 f12 f13 f14 f15 f16 f17 f18 f19 f20 f21 f22 f23 f24 f25 f26 : Addr} (X : K.In h) (Gn : h.Ns mainGlobals mg) (hfa : mg "law" = some (.ref fa))
    {od1 an1 od2 an2 od3 an3 od4 an4 od5 an5 od6 an6 od7 an7 od8 an8 od9 an9 od10 an10 od11 an11 od12 an12 od13 an13 od14 an14 od15 an15 od16 an16 od17 an17 od18 an18 od19 an19 od20 an20 od21 an21 od22 an22 od23 an23 od24 an24 od25 an25 od26 an26 : Option Addr} {sl1 sl2 sl3 sl4 sl5 sl6 sl7 sl8 sl9 sl10 sl11 sl12 sl13 sl14 sl15 sl16 sl17 sl18 sl19 sl20 sl21 sl22 sl23 sl24 sl25 sl26 : Array (Option Value)} {oc1 kV1 dc1 pm1 cd1 ct1 oc2 kV2 dc2 pm2 cd2 ct2 oc3 kV3 dc3 pm3 cd3 ct3 oc4 kV4 dc4 pm4 cd4 ct4 oc5 kV5 dc5 pm5 cd5 ct5 oc6 kV6 dc6 pm6 cd6 ct6 oc7 kV7 dc7 pm7 cd7 ct7 oc8 kV8 dc8 pm8 cd8 ct8 oc9 kV9 dc9 pm9 cd9 ct9 oc10 kV10 dc10 pm10 cd10 ct10 oc11 kV11 dc11 pm11 cd11 ct11 oc12 kV12 dc12 pm12 cd12 ct12 oc13 kV13 dc13 pm13 cd13 ct13 oc14 kV14 dc14 pm14 cd14 ct14 oc15 kV15 dc15 pm15 cd15 ct15 oc16 kV16 dc16 pm16 cd16 ct16 oc17 kV17 dc17 pm17 cd17 ct17 oc18 kV18 dc18 pm18 cd18 ct18 oc19 kV19 dc19 pm19 cd19 ct19 oc20 kV20 dc20 pm20 cd20 ct20 oc21 kV21 dc21 pm21 cd21 ct21 oc22 kV22 dc22 pm22 cd22 ct22 oc23 kV23 dc23 pm23 cd23 ct23 oc24 kV24 dc24 pm24 cd24 ct24 oc25 kV25 dc25 pm25 cd25 ct25 oc26 kV26 dc26 pm26 cd26 ct26 : Value}
    (a1 : PySem.W.nsIn K mainGlobals "_law_feed" = some (some (.ref f1))) (l1 : K.lookup f1 = some ⟨oc1, od1, .func (PySem.W.fnOf "_law_feed" "_law_feed" (defArgs s__law_feed) (defBody s__law_feed) (defScope s__law_feed) .none kV1 dc1 pm1 an1 cd1 ct1), sl1⟩) (c1 : PySem.W.codeIn K cd1 "_law_feed" = true) (k1 : PySem.W.keepIn K (.ref f1) = true)
    (a2 : PySem.W.nsIn K mainGlobals "_law_draw" = some (some (.ref f2))) (l2 : K.lookup f2 = some ⟨oc2, od2, .func (PySem.W.fnOf "_law_draw" "_law_draw" (defArgs s__law_draw) (defBody s__law_draw) (defScope s__law_draw) .none kV2 dc2 pm2 an2 cd2 ct2), sl2⟩) (c2 : PySem.W.codeIn K cd2 "_law_draw" = true) (k2 : PySem.W.keepIn K (.ref f2) = true)
    (a3 : PySem.W.nsIn K mainGlobals "_law_corners" = some (some (.ref f3))) (l3 : K.lookup f3 = some ⟨oc3, od3, .func (PySem.W.fnOf "_law_corners" "_law_corners" (defArgs s__law_corners) (defBody s__law_corners) (defScope s__law_corners) .none kV3 dc3 pm3 an3 cd3 ct3), sl3⟩) (c3 : PySem.W.codeIn K cd3 "_law_corners" = true) (k3 : PySem.W.keepIn K (.ref f3) = true)
    (a4 : PySem.W.nsIn K mainGlobals "_law_cuts" = some (some (.ref f4))) (l4 : K.lookup f4 = some ⟨oc4, od4, .func (PySem.W.fnOf "_law_cuts" "_law_cuts" (defArgs s__law_cuts) (defBody s__law_cuts) (defScope s__law_cuts) .none kV4 dc4 pm4 an4 cd4 ct4), sl4⟩) (c4 : PySem.W.codeIn K cd4 "_law_cuts" = true) (k4 : PySem.W.keepIn K (.ref f4) = true)
    (a5 : PySem.W.nsIn K mainGlobals "is_joined" = some (some (.ref f5))) (l5 : K.lookup f5 = some ⟨oc5, od5, .func (PySem.W.fnOf "is_joined" "is_joined" (defArgs s_is_joined) (defBody s_is_joined) (defScope s_is_joined) .none kV5 dc5 pm5 an5 cd5 ct5), sl5⟩) (c5 : PySem.W.codeIn K cd5 "is_joined" = true) (k5 : PySem.W.keepIn K (.ref f5) = true)
    (a6 : PySem.W.nsIn K mainGlobals "other_chord" = some (some (.ref f6))) (l6 : K.lookup f6 = some ⟨oc6, od6, .func (PySem.W.fnOf "other_chord" "other_chord" (defArgs s_other_chord) (defBody s_other_chord) (defScope s_other_chord) .none kV6 dc6 pm6 an6 cd6 ct6), sl6⟩) (c6 : PySem.W.codeIn K cd6 "other_chord" = true) (k6 : PySem.W.keepIn K (.ref f6) = true)
    (a7 : PySem.W.nsIn K mainGlobals "with_flip" = some (some (.ref f7))) (l7 : K.lookup f7 = some ⟨oc7, od7, .func (PySem.W.fnOf "with_flip" "with_flip" (defArgs s_with_flip) (defBody s_with_flip) (defScope s_with_flip) .none kV7 dc7 pm7 an7 cd7 ct7), sl7⟩) (c7 : PySem.W.codeIn K cd7 "with_flip" = true) (k7 : PySem.W.keepIn K (.ref f7) = true)
    (a8 : PySem.W.nsIn K mainGlobals "way_to_corner" = some (some (.ref f8))) (l8 : K.lookup f8 = some ⟨oc8, od8, .func (PySem.W.fnOf "way_to_corner" "way_to_corner" (defArgs s_way_to_corner) (defBody s_way_to_corner) (defScope s_way_to_corner) .none kV8 dc8 pm8 an8 cd8 ct8), sl8⟩) (c8 : PySem.W.codeIn K cd8 "way_to_corner" = true) (k8 : PySem.W.keepIn K (.ref f8) = true)
    (a9 : PySem.W.nsIn K mainGlobals "lead_over" = some (some (.ref f9))) (l9 : K.lookup f9 = some ⟨oc9, od9, .func (PySem.W.fnOf "lead_over" "lead_over" (defArgs s_lead_over) (defBody s_lead_over) (defScope s_lead_over) .none kV9 dc9 pm9 an9 cd9 ct9), sl9⟩) (c9 : PySem.W.codeIn K cd9 "lead_over" = true) (k9 : PySem.W.keepIn K (.ref f9) = true)
    (a10 : PySem.W.nsIn K mainGlobals "_law_joined" = some (some (.ref f10))) (l10 : K.lookup f10 = some ⟨oc10, od10, .func (PySem.W.fnOf "_law_joined" "_law_joined" (defArgs s__law_joined) (defBody s__law_joined) (defScope s__law_joined) .none kV10 dc10 pm10 an10 cd10 ct10), sl10⟩) (c10 : PySem.W.codeIn K cd10 "_law_joined" = true) (k10 : PySem.W.keepIn K (.ref f10) = true)
    (a11 : PySem.W.nsIn K mainGlobals "_law_both" = some (some (.ref f11))) (l11 : K.lookup f11 = some ⟨oc11, od11, .func (PySem.W.fnOf "_law_both" "_law_both" (defArgs s__law_both) (defBody s__law_both) (defScope s__law_both) .none kV11 dc11 pm11 an11 cd11 ct11), sl11⟩) (c11 : PySem.W.codeIn K cd11 "_law_both" = true) (k11 : PySem.W.keepIn K (.ref f11) = true)
    (a12 : PySem.W.nsIn K mainGlobals "_law_come" = some (some (.ref f12))) (l12 : K.lookup f12 = some ⟨oc12, od12, .func (PySem.W.fnOf "_law_come" "_law_come" (defArgs s__law_come) (defBody s__law_come) (defScope s__law_come) .none kV12 dc12 pm12 an12 cd12 ct12), sl12⟩) (c12 : PySem.W.codeIn K cd12 "_law_come" = true) (k12 : PySem.W.keepIn K (.ref f12) = true)
    (a13 : PySem.W.nsIn K mainGlobals "_law_flipped" = some (some (.ref f13))) (l13 : K.lookup f13 = some ⟨oc13, od13, .func (PySem.W.fnOf "_law_flipped" "_law_flipped" (defArgs s__law_flipped) (defBody s__law_flipped) (defScope s__law_flipped) .none kV13 dc13 pm13 an13 cd13 ct13), sl13⟩) (c13 : PySem.W.codeIn K cd13 "_law_flipped" = true) (k13 : PySem.W.keepIn K (.ref f13) = true)
    (a14 : PySem.W.nsIn K mainGlobals "_law_walked" = some (some (.ref f14))) (l14 : K.lookup f14 = some ⟨oc14, od14, .func (PySem.W.fnOf "_law_walked" "_law_walked" (defArgs s__law_walked) (defBody s__law_walked) (defScope s__law_walked) .none kV14 dc14 pm14 an14 cd14 ct14), sl14⟩) (c14 : PySem.W.codeIn K cd14 "_law_walked" = true) (k14 : PySem.W.keepIn K (.ref f14) = true)
    (a15 : PySem.W.nsIn K mainGlobals "flipped" = some (some (.ref f15))) (l15 : K.lookup f15 = some ⟨oc15, od15, .func (PySem.W.fnOf "flipped" "flipped" (defArgs s_flipped) (defBody s_flipped) (defScope s_flipped) .none kV15 dc15 pm15 an15 cd15 ct15), sl15⟩) (c15 : PySem.W.codeIn K cd15 "flipped" = true) (k15 : PySem.W.keepIn K (.ref f15) = true)
    (a16 : PySem.W.nsIn K mainGlobals "_law_whole" = some (some (.ref f16))) (l16 : K.lookup f16 = some ⟨oc16, od16, .func (PySem.W.fnOf "_law_whole" "_law_whole" (defArgs s__law_whole) (defBody s__law_whole) (defScope s__law_whole) .none kV16 dc16 pm16 an16 cd16 ct16), sl16⟩) (c16 : PySem.W.codeIn K cd16 "_law_whole" = true) (k16 : PySem.W.keepIn K (.ref f16) = true)
    (a17 : PySem.W.nsIn K mainGlobals "_law_chords_same" = some (some (.ref f17))) (l17 : K.lookup f17 = some ⟨oc17, od17, .func (PySem.W.fnOf "_law_chords_same" "_law_chords_same" (defArgs s__law_chords_same) (defBody s__law_chords_same) (defScope s__law_chords_same) .none kV17 dc17 pm17 an17 cd17 ct17), sl17⟩) (c17 : PySem.W.codeIn K cd17 "_law_chords_same" = true) (k17 : PySem.W.keepIn K (.ref f17) = true)
    (a18 : PySem.W.nsIn K mainGlobals "_law_way" = some (some (.ref f18))) (l18 : K.lookup f18 = some ⟨oc18, od18, .func (PySem.W.fnOf "_law_way" "_law_way" (defArgs s__law_way) (defBody s__law_way) (defScope s__law_way) .none kV18 dc18 pm18 an18 cd18 ct18), sl18⟩) (c18 : PySem.W.codeIn K cd18 "_law_way" = true) (k18 : PySem.W.keepIn K (.ref f18) = true)
    (a19 : PySem.W.nsIn K mainGlobals "_law_yes" = some (some (.ref f19))) (l19 : K.lookup f19 = some ⟨oc19, od19, .func (PySem.W.fnOf "_law_yes" "_law_yes" (defArgs s__law_yes) (defBody s__law_yes) (defScope s__law_yes) .none kV19 dc19 pm19 an19 cd19 ct19), sl19⟩) (c19 : PySem.W.codeIn K cd19 "_law_yes" = true) (k19 : PySem.W.keepIn K (.ref f19) = true)
    (a20 : PySem.W.nsIn K mainGlobals "flip_of" = some (some (.ref f20))) (l20 : K.lookup f20 = some ⟨oc20, od20, .func (PySem.W.fnOf "flip_of" "flip_of" (defArgs s_flip_of) (defBody s_flip_of) (defScope s_flip_of) .none kV20 dc20 pm20 an20 cd20 ct20), sl20⟩) (c20 : PySem.W.codeIn K cd20 "flip_of" = true) (k20 : PySem.W.keepIn K (.ref f20) = true)
    (a21 : PySem.W.nsIn K mainGlobals "is_whole" = some (some (.ref f21))) (l21 : K.lookup f21 = some ⟨oc21, od21, .func (PySem.W.fnOf "is_whole" "is_whole" (defArgs s_is_whole) (defBody s_is_whole) (defScope s_is_whole) .none kV21 dc21 pm21 an21 cd21 ct21), sl21⟩) (c21 : PySem.W.codeIn K cd21 "is_whole" = true) (k21 : PySem.W.keepIn K (.ref f21) = true)
    (a22 : PySem.W.nsIn K mainGlobals "is_whole_tuple" = some (some (.ref f22))) (l22 : K.lookup f22 = some ⟨oc22, od22, .func (PySem.W.fnOf "is_whole_tuple" "is_whole_tuple" (defArgs s_is_whole_tuple) (defBody s_is_whole_tuple) (defScope s_is_whole_tuple) .none kV22 dc22 pm22 an22 cd22 ct22), sl22⟩) (c22 : PySem.W.codeIn K cd22 "is_whole_tuple" = true) (k22 : PySem.W.keepIn K (.ref f22) = true)
    (a23 : PySem.W.nsIn K mainGlobals "are_pairs" = some (some (.ref f23))) (l23 : K.lookup f23 = some ⟨oc23, od23, .func (PySem.W.fnOf "are_pairs" "are_pairs" (defArgs s_are_pairs) (defBody s_are_pairs) (defScope s_are_pairs) .none kV23 dc23 pm23 an23 cd23 ct23), sl23⟩) (c23 : PySem.W.codeIn K cd23 "are_pairs" = true) (k23 : PySem.W.keepIn K (.ref f23) = true)
    (a24 : PySem.W.nsIn K mainGlobals "shows_flips" = some (some (.ref f24))) (l24 : K.lookup f24 = some ⟨oc24, od24, .func (PySem.W.fnOf "shows_flips" "shows_flips" (defArgs s_shows_flips) (defBody s_shows_flips) (defScope s_shows_flips) .none kV24 dc24 pm24 an24 cd24 ct24), sl24⟩) (c24 : PySem.W.codeIn K cd24 "shows_flips" = true) (k24 : PySem.W.keepIn K (.ref f24) = true)
    (a25 : PySem.W.nsIn K mainGlobals "_law_lead_right" = some (some (.ref f25))) (l25 : K.lookup f25 = some ⟨oc25, od25, .func (PySem.W.fnOf "_law_lead_right" "_law_lead_right" (defArgs s__law_lead_right) (defBody s__law_lead_right) (defScope s__law_lead_right) .none kV25 dc25 pm25 an25 cd25 ct25), sl25⟩) (c25 : PySem.W.codeIn K cd25 "_law_lead_right" = true) (k25 : PySem.W.keepIn K (.ref f25) = true)
    (a26 : PySem.W.nsIn K mainGlobals "law" = some (some (.ref f26))) (l26 : K.lookup f26 = some ⟨oc26, od26, .func (PySem.W.fnOf "law" "law" (defArgs s_law) (defBody s_law) (defScope s_law) .none kV26 dc26 pm26 an26 cd26 ct26), sl26⟩) (c26 : PySem.W.codeIn K cd26 "law" = true) (k26 : PySem.W.keepIn K (.ref f26) = true)
    (z_len : PySem.W.nsIn K mainGlobals "len" = some none)
    (z_abs : PySem.W.nsIn K mainGlobals "abs" = some none)
    (z_int : PySem.W.nsIn K mainGlobals "int" = some none)
    (z_range : PySem.W.nsIn K mainGlobals "range" = some none)
    (z_sorted : PySem.W.nsIn K mainGlobals "sorted" = some none)
    (z_min : PySem.W.nsIn K mainGlobals "min" = some none)
    (z_max : PySem.W.nsIn K mainGlobals "max" = some none)
    (z_list : PySem.W.nsIn K mainGlobals "list" = some none)
    (z_any : PySem.W.nsIn K mainGlobals "any" = some none)
    (z_isinstance : PySem.W.nsIn K mainGlobals "isinstance" = some none)
    (z_bool : PySem.W.nsIn K mainGlobals "bool" = some none)
    (z_tuple : PySem.W.nsIn K mainGlobals "tuple" = some none)
    (z_all : PySem.W.nsIn K mainGlobals "all" = some none)
    : ∃ fd : FuncData, (∀ (s : Shared) (v : Value), BindsTo s fd ⟨[v], []⟩ [("script", v)]) ∧ ∀ base : Heap, K.In base → base.Ns mainGlobals mg → FnOk l.prog w K mg base CX0 7 fa fd ["script"] (spLaw K) := by
  have e := hfa.symm.trans (PySem.W.mg_of X Gn a26)
  cases e
  have m_len := PySem.W.mg_none_of X Gn z_len
  have m_abs := PySem.W.mg_none_of X Gn z_abs
  have m_int := PySem.W.mg_none_of X Gn z_int
  have m_range := PySem.W.mg_none_of X Gn z_range
  have m_sorted := PySem.W.mg_none_of X Gn z_sorted
  have m_min := PySem.W.mg_none_of X Gn z_min
  have m_max := PySem.W.mg_none_of X Gn z_max
  have m_list := PySem.W.mg_none_of X Gn z_list
  have m_any := PySem.W.mg_none_of X Gn z_any
  have m_isinstance := PySem.W.mg_none_of X Gn z_isinstance
  have m_bool := PySem.W.mg_none_of X Gn z_bool
  have m_tuple := PySem.W.mg_none_of X Gn z_tuple
  have m_all := PySem.W.mg_none_of X Gn z_all
  have F1 := fun_mk (st := s__law_feed) l1 c1 k1
  have b1 := F1.binds (ps := ["script"]) fun _ _ _ _ _ _ us hl => match us, hl with | [_], _ => rfl
  have F2 := fun_mk (st := s__law_draw) l2 c2 k2
  have b2 := F2.binds (ps := ["feed", "many"]) fun _ _ _ _ _ _ us hl => match us, hl with | [_, _], _ => rfl
  have F3 := fun_mk (st := s__law_corners) l3 c3 k3
  have b3 := F3.binds (ps := ["feed", "most"]) fun _ _ _ _ _ _ us hl => match us, hl with | [_, _], _ => rfl
  have F4 := fun_mk (st := s__law_cuts) l4 c4 k4
  have b4 := F4.binds (ps := ["feed", "n"]) fun _ _ _ _ _ _ us hl => match us, hl with | [_, _], _ => rfl
  have F5 := fun_mk (st := s_is_joined) l5 c5 k5
  have b5 := F5.binds (ps := ["n", "cuts", "i", "j"]) fun _ _ _ _ _ _ us hl => match us, hl with | [_, _, _, _], _ => rfl
  have F6 := fun_mk (st := s_other_chord) l6 c6 k6
  have b6 := F6.binds (ps := ["n", "cuts", "chord"]) fun _ _ _ _ _ _ us hl => match us, hl with | [_, _, _], _ => rfl
  have F7 := fun_mk (st := s_with_flip) l7 c7 k7
  have b7 := F7.binds (ps := ["n", "cuts", "chord"]) fun _ _ _ _ _ _ us hl => match us, hl with | [_, _, _], _ => rfl
  have F8 := fun_mk (st := s_way_to_corner) l8 c8 k8
  have b8 := F8.binds (ps := ["n", "cuts"]) fun _ _ _ _ _ _ us hl => match us, hl with | [_, _], _ => rfl
  have F9 := fun_mk (st := s_lead_over) l9 c9 k9
  have b9 := F9.binds (ps := ["n", "cuts", "goal"]) fun _ _ _ _ _ _ us hl => match us, hl with | [_, _, _], _ => rfl
  have F10 := fun_mk (st := s__law_joined) l10 c10 k10
  have b10 := F10.binds (ps := ["n", "cuts", "a", "b"]) fun _ _ _ _ _ _ us hl => match us, hl with | [_, _, _, _], _ => rfl
  have F11 := fun_mk (st := s__law_both) l11 c11 k11
  have b11 := F11.binds (ps := ["n", "cuts", "chord", "k"]) fun _ _ _ _ _ _ us hl => match us, hl with | [_, _, _, _], _ => rfl
  have F12 := fun_mk (st := s__law_come) l12 c12 k12
  have b12 := F12.binds (ps := ["n", "cuts", "chord"]) fun _ _ _ _ _ _ us hl => match us, hl with | [_, _, _], _ => rfl
  have F13 := fun_mk (st := s__law_flipped) l13 c13 k13
  have b13 := F13.binds (ps := ["n", "cuts", "chord"]) fun _ _ _ _ _ _ us hl => match us, hl with | [_, _, _], _ => rfl
  have F14 := fun_mk (st := s__law_walked) l14 c14 k14
  have b14 := F14.binds (ps := ["n", "cuts", "chords"]) fun _ _ _ _ _ _ us hl => match us, hl with | [_, _, _], _ => rfl
  have F15 := fun_mk (st := s_flipped) l15 c15 k15
  have b15 := F15.binds (ps := ["n", "cuts", "chord"]) fun _ _ _ _ _ _ us hl => match us, hl with | [_, _, _], _ => rfl
  have F16 := fun_mk (st := s__law_whole) l16 c16 k16
  have b16 := F16.binds (ps := ["value"]) fun _ _ _ _ _ _ us hl => match us, hl with | [_], _ => rfl
  have F17 := fun_mk (st := s__law_chords_same) l17 c17 k17
  have b17 := F17.binds (ps := ["told", "due"]) fun _ _ _ _ _ _ us hl => match us, hl with | [_, _], _ => rfl
  have F18 := fun_mk (st := s__law_way) l18 c18 k18
  have b18 := F18.binds (ps := ["n", "cuts"]) fun _ _ _ _ _ _ us hl => match us, hl with | [_, _], _ => rfl
  have F19 := fun_mk (st := s__law_yes) l19 c19 k19
  have b19 := F19.binds (ps := ["told", "due"]) fun _ _ _ _ _ _ us hl => match us, hl with | [_, _], _ => rfl
  have F20 := fun_mk (st := s_flip_of) l20 c20 k20
  have b20 := F20.binds (ps := ["n", "cuts", "chord"]) fun _ _ _ _ _ _ us hl => match us, hl with | [_, _, _], _ => rfl
  have F21 := fun_mk (st := s_is_whole) l21 c21 k21
  have b21 := F21.binds (ps := ["value"]) fun _ _ _ _ _ _ us hl => match us, hl with | [_], _ => rfl
  have F22 := fun_mk (st := s_is_whole_tuple) l22 c22 k22
  have b22 := F22.binds (ps := ["value", "many"]) fun _ _ _ _ _ _ us hl => match us, hl with | [_, _], _ => rfl
  have F23 := fun_mk (st := s_are_pairs) l23 c23 k23
  have b23 := F23.binds (ps := ["value"]) fun _ _ _ _ _ _ us hl => match us, hl with | [_], _ => rfl
  have F24 := fun_mk (st := s_shows_flips) l24 c24 k24
  have b24 := F24.binds (ps := ["n", "cuts", "goal", "chords"]) fun _ _ _ _ _ _ us hl => match us, hl with | [_, _, _, _], _ => rfl
  have F25 := fun_mk (st := s__law_lead_right) l25 c25 k25
  have b25 := F25.binds (ps := ["n", "cuts", "goal"]) fun _ _ _ _ _ _ us hl => match us, hl with | [_, _, _], _ => rfl
  have F26 := fun_mk (st := s_law) l26 c26 k26
  refine ⟨PySem.W.fnOf "law" "law" (defArgs s_law) (defBody s_law) (defScope s_law) .none kV26 dc26 pm26 an26 cd26 ct26, fun s v => .of_eq rfl, fun base _ _ => ?_⟩
  have G_feed : FnOk l.prog w K mg base CX0 1 f1 _ ["script"] (spFeed K) := feed_ok (ps := ["script"]) F1 sc__law_feed fun cdv A outer s H E => pss_one (ps_ret (pe_lst (pa_cons (pe_callTy call_list_of rfl m_list (by decide +kernel) (pa_cons (pv 0) pa_nil)) (pa_cons pe_int (pa_cons pe_int (pa_cons pe_int pa_nil))))))
  have C__law_draw : Cal l.prog w K mg base 1 "_law_draw" ["feed", "many"] [0] S__law_draw := cal_mk (fn_ok F2 sc__law_draw (by decide) (fun cdv A outer s H E hr => d__law_draw m_len m_abs m_int hr) wp__law_draw) ok__law_draw (PySem.W.mg_of X Gn a2) k2 b2
  have C__law_corners : Cal l.prog w K mg base 2 "_law_corners" ["feed", "most"] [0] S__law_corners := cal_mk (fn_ok F3 sc__law_corners (by decide) (fun cdv A outer s H E hr => d__law_corners C__law_draw hr) wp__law_corners) ok__law_corners (PySem.W.mg_of X Gn a3) k3 b3
  have C__law_cuts : Cal l.prog w K mg base 2 "_law_cuts" ["feed", "n"] [0] S__law_cuts := cal_mk (fn_ok F4 sc__law_cuts (by decide) (fun cdv A outer s H E hr => d__law_cuts C__law_draw m_range m_len m_sorted hr) wp__law_cuts) ok__law_cuts (PySem.W.mg_of X Gn a4) k4 b4
  have C_is_joined : Cal l.prog w K mg base 1 "is_joined" ["n", "cuts", "i", "j"] [] S_is_joined := cal_mk (fn_ok F5 sc_is_joined (by decide) (fun cdv A outer s H E hr => d_is_joined m_min m_max hr) wp_is_joined) ok_is_joined (PySem.W.mg_of X Gn a5) k5 b5
  have C_other_chord : Cal l.prog w K mg base 2 "other_chord" ["n", "cuts", "chord"] [] S_other_chord := cal_mk (fn_ok F6 sc_other_chord (by decide) (fun cdv A outer s H E hr => d_other_chord C_is_joined m_range hr) wp_other_chord) ok_other_chord (PySem.W.mg_of X Gn a6) k6 b6
  have C_with_flip : Cal l.prog w K mg base 3 "with_flip" ["n", "cuts", "chord"] [] S_with_flip := cal_mk (fn_ok F7 sc_with_flip (by decide) (fun cdv A outer s H E hr => d_with_flip C_other_chord m_sorted hr) wp_with_flip) ok_with_flip (PySem.W.mg_of X Gn a7) k7 b7
  have C_way_to_corner : Cal l.prog w K mg base 4 "way_to_corner" ["n", "cuts"] [] S_way_to_corner := cal_mk (fn_ok F8 sc_way_to_corner (by decide) (fun cdv A outer s H E hr => d_way_to_corner C_other_chord C_with_flip m_list m_any hr) wp_way_to_corner) ok_way_to_corner (PySem.W.mg_of X Gn a8) k8 b8
  have C_lead_over : Cal l.prog w K mg base 5 "lead_over" ["n", "cuts", "goal"] [] S_lead_over := cal_mk (fn_ok F9 sc_lead_over (by decide) (fun cdv A outer s H E hr => d_lead_over C_way_to_corner hr) wp_lead_over) ok_lead_over (PySem.W.mg_of X Gn a9) k9 b9
  have C__law_joined : Cal l.prog w K mg base 1 "_law_joined" ["n", "cuts", "a", "b"] [] S__law_joined := cal_mk (fn_ok F10 sc__law_joined (by decide) (fun cdv A outer s H E hr => d__law_joined m_min m_max hr) wp__law_joined) ok__law_joined (PySem.W.mg_of X Gn a10) k10 b10
  have C__law_both : Cal l.prog w K mg base 2 "_law_both" ["n", "cuts", "chord", "k"] [] S__law_both := cal_mk (fn_ok F11 sc__law_both (by decide) (fun cdv A outer s H E hr => d__law_both C__law_joined hr) wp__law_both) ok__law_both (PySem.W.mg_of X Gn a11) k11 b11
  have C__law_come : Cal l.prog w K mg base 3 "_law_come" ["n", "cuts", "chord"] [] S__law_come := cal_mk (fn_ok F12 sc__law_come (by decide) (fun cdv A outer s H E hr => d__law_come C__law_both m_range m_max m_min hr) wp__law_come) ok__law_come (PySem.W.mg_of X Gn a12) k12 b12
  have C__law_flipped : Cal l.prog w K mg base 4 "_law_flipped" ["n", "cuts", "chord"] [] S__law_flipped := cal_mk (fn_ok F13 sc__law_flipped (by decide) (fun cdv A outer s H E hr => d__law_flipped C__law_come m_sorted hr) wp__law_flipped) ok__law_flipped (PySem.W.mg_of X Gn a13) k13 b13
  have C__law_walked : Cal l.prog w K mg base 5 "_law_walked" ["n", "cuts", "chords"] [2] S__law_walked := cal_mk (fn_ok F14 sc__law_walked (by decide) (fun cdv A outer s H E hr => d__law_walked C__law_come C__law_flipped hr) wp__law_walked) ok__law_walked (PySem.W.mg_of X Gn a14) k14 b14
  have C_flipped : Cal l.prog w K mg base 4 "flipped" ["n", "cuts", "chord"] [] S_flipped := cal_mk (fn_ok F15 sc_flipped (by decide) (fun cdv A outer s H E hr => d_flipped C_with_flip hr) wp_flipped) ok_flipped (PySem.W.mg_of X Gn a15) k15 b15
  have C__law_whole : Cal l.prog w K mg base 1 "_law_whole" ["value"] [] S__law_whole := cal_mk (fn_ok F16 sc__law_whole (by decide) (fun cdv A outer s H E hr => d__law_whole m_isinstance m_bool m_int hr) wp__law_whole) ok__law_whole (PySem.W.mg_of X Gn a16) k16 b16
  have C__law_chords_same : Cal l.prog w K mg base 2 "_law_chords_same" ["told", "due"] [] S__law_chords_same := cal_mk (fn_ok F17 sc__law_chords_same (by decide) (fun cdv A outer s H E hr => d__law_chords_same C__law_whole m_len m_isinstance m_list m_range m_tuple hr) wp__law_chords_same) ok__law_chords_same (PySem.W.mg_of X Gn a17) k17 b17
  have C__law_way : Cal l.prog w K mg base 5 "_law_way" ["n", "cuts"] [] S__law_way := cal_mk (fn_ok F18 sc__law_way (by decide) (fun cdv A outer s H E hr => d__law_way C__law_come C__law_flipped m_range m_len hr) wp__law_way) ok__law_way (PySem.W.mg_of X Gn a18) k18 b18
  have C__law_yes : Cal l.prog w K mg base 1 "_law_yes" ["told", "due"] [] S__law_yes := cal_mk (fn_ok F19 sc__law_yes (by decide) (fun cdv A outer s H E hr => d__law_yes m_isinstance m_bool hr) wp__law_yes) ok__law_yes (PySem.W.mg_of X Gn a19) k19 b19
  have C_flip_of : Cal l.prog w K mg base 3 "flip_of" ["n", "cuts", "chord"] [] S_flip_of := cal_mk (fn_ok F20 sc_flip_of (by decide) (fun cdv A outer s H E hr => d_flip_of C_other_chord hr) wp_flip_of) ok_flip_of (PySem.W.mg_of X Gn a20) k20 b20
  have C_is_whole : Cal l.prog w K mg base 1 "is_whole" ["value"] [] S_is_whole := cal_mk (fn_ok F21 sc_is_whole (by decide) (fun cdv A outer s H E hr => d_is_whole m_isinstance m_bool m_int hr) wp_is_whole) ok_is_whole (PySem.W.mg_of X Gn a21) k21 b21
  have C_is_whole_tuple : Cal l.prog w K mg base 2 "is_whole_tuple" ["value", "many"] [] S_is_whole_tuple := cal_mk (fn_ok F22 sc_is_whole_tuple (by decide) (fun cdv A outer s H E hr => d_is_whole_tuple C_is_whole m_len m_isinstance m_tuple m_all hr) wp_is_whole_tuple) ok_is_whole_tuple (PySem.W.mg_of X Gn a22) k22 b22
  have C_are_pairs : Cal l.prog w K mg base 3 "are_pairs" ["value"] [] S_are_pairs := cal_mk (fn_ok F23 sc_are_pairs (by decide) (fun cdv A outer s H E hr => d_are_pairs C_is_whole_tuple m_all m_isinstance m_list hr) wp_are_pairs) ok_are_pairs (PySem.W.mg_of X Gn a23) k23 b23
  have C_shows_flips : Cal l.prog w K mg base 4 "shows_flips" ["n", "cuts", "goal", "chords"] [] S_shows_flips := cal_mk (fn_ok F24 sc_shows_flips (by decide) (fun cdv A outer s H E hr => d_shows_flips C_are_pairs C_with_flip m_list hr) wp_shows_flips) ok_shows_flips (PySem.W.mg_of X Gn a24) k24 b24
  have C__law_lead_right : Cal l.prog w K mg base 6 "_law_lead_right" ["n", "cuts", "goal"] [] S__law_lead_right := cal_mk (fn_ok F25 sc__law_lead_right (by decide) (fun cdv A outer s H E hr => d__law_lead_right C__law_way C_lead_over C__law_chords_same C__law_walked C__law_yes C_shows_flips C_flip_of C_flipped m_list m_len m_range hr) wp__law_lead_right) ok__law_lead_right (PySem.W.mg_of X Gn a25) k25 b25
  exact law_ok (i := 1) (n := 8) F26 sc_law rfl (by decide) (by decide) rfl (fun cdv A outer s H E hr => ps_set (i := 1) sc_law.nd rfl (by first | exact .inl rfl | exact .inr rfl) (pe_call G_feed (hr.mono (by decide)) rfl (PySem.W.mg_of X Gn a1) F1.kp b1 .nil pass0 (pa_cons (pv 0) pa_nil))) (fun cdv A outer s H E hr => d_law C__law_corners C__law_cuts C__law_lead_right C_lead_over m_range m_list hr) wp_law
end TVL
open PySem PySem.W PyProof.Rows
set_option maxRecDepth 100000 in
set_option maxHeartbeats 0 in
theorem PySem.Challenge.cw_diamondrows_k32_whole_flips_lead_over_holds : PySem.Challenge.rw_diamondrows_k32_whole_flips_lead_over.Holds := by
  w_on; o_law; k_head; (case hw => w_witness2)
  k_fill
  refine L2.walk_of (l := PySem.Challenge.rw_diamondrows_k32_whole_flips_lead_over) (n := 63) (k := 7) (x := "script") (CX := fun _ => L2.CX0) (sp := fun w => TV.spLaw _) rfl (by decide) rfl ⟨rfl, by decide, by decide⟩ (fun w h Y => PySem.W.kIn_of Y) ?F (fun _ _ a ns hl ho hS => ⟨a, ns, rfl, hS, hl, ho, fun _ => rfl⟩) (fun _ _ _ _ _ h => h)
  case F =>
    intro w mg fa h KX G hmg
    refine' TVL.all_mk KX G hmg ?a1 ?l1 ?c1 ?k1 ?a2 ?l2 ?c2 ?k2 ?a3 ?l3 ?c3 ?k3 ?a4 ?l4 ?c4 ?k4 ?a5 ?l5 ?c5 ?k5 ?a6 ?l6 ?c6 ?k6 ?a7 ?l7 ?c7 ?k7 ?a8 ?l8 ?c8 ?k8 ?a9 ?l9 ?c9 ?k9 ?a10 ?l10 ?c10 ?k10 ?a11 ?l11 ?c11 ?k11 ?a12 ?l12 ?c12 ?k12 ?a13 ?l13 ?c13 ?k13 ?a14 ?l14 ?c14 ?k14 ?a15 ?l15 ?c15 ?k15 ?a16 ?l16 ?c16 ?k16 ?a17 ?l17 ?c17 ?k17 ?a18 ?l18 ?c18 ?k18 ?a19 ?l19 ?c19 ?k19 ?a20 ?l20 ?c20 ?k20 ?a21 ?l21 ?c21 ?k21 ?a22 ?l22 ?c22 ?k22 ?a23 ?l23 ?c23 ?k23 ?a24 ?l24 ?c24 ?k24 ?a25 ?l25 ?c25 ?k25 ?a26 ?l26 ?c26 ?k26 ?z_len ?z_abs ?z_int ?z_range ?z_sorted ?z_min ?z_max ?z_list ?z_any ?z_isinstance ?z_bool ?z_tuple ?z_all
    (case a1 => k_is); (case l1 => k_is); (case c1 => k_is); (case k1 => k_is); (case a2 => k_is); (case l2 => k_is)
    (case c2 => k_is); (case k2 => k_is); (case a3 => k_is); (case l3 => k_is); (case c3 => k_is); (case k3 => k_is)
    (case a4 => k_is); (case l4 => k_is); (case c4 => k_is); (case k4 => k_is); (case a5 => k_is); (case l5 => k_is)
    (case c5 => k_is); (case k5 => k_is); (case a6 => k_is); (case l6 => k_is); (case c6 => k_is); (case k6 => k_is)
    (case a7 => k_is); (case l7 => k_is); (case c7 => k_is); (case k7 => k_is); (case a8 => k_is); (case l8 => k_is)
    (case c8 => k_is); (case k8 => k_is); (case a9 => k_is); (case l9 => k_is); (case c9 => k_is); (case k9 => k_is)
    (case a10 => k_is); (case l10 => k_is); (case c10 => k_is); (case k10 => k_is); (case a11 => k_is); (case l11 => k_is)
    (case c11 => k_is); (case k11 => k_is); (case a12 => k_is); (case l12 => k_is); (case c12 => k_is); (case k12 => k_is)
    (case a13 => k_is); (case l13 => k_is); (case c13 => k_is); (case k13 => k_is); (case a14 => k_is); (case l14 => k_is)
    (case c14 => k_is); (case k14 => k_is); (case a15 => k_is); (case l15 => k_is); (case c15 => k_is); (case k15 => k_is)
    (case a16 => k_is); (case l16 => k_is); (case c16 => k_is); (case k16 => k_is); (case a17 => k_is); (case l17 => k_is)
    (case c17 => k_is); (case k17 => k_is); (case a18 => k_is); (case l18 => k_is); (case c18 => k_is); (case k18 => k_is)
    (case a19 => k_is); (case l19 => k_is); (case c19 => k_is); (case k19 => k_is); (case a20 => k_is); (case l20 => k_is)
    (case c20 => k_is); (case k20 => k_is); (case a21 => k_is); (case l21 => k_is); (case c21 => k_is); (case k21 => k_is)
    (case a22 => k_is); (case l22 => k_is); (case c22 => k_is); (case k22 => k_is); (case a23 => k_is); (case l23 => k_is)
    (case c23 => k_is); (case k23 => k_is); (case a24 => k_is); (case l24 => k_is); (case c24 => k_is); (case k24 => k_is)
    (case a25 => k_is); (case l25 => k_is); (case c25 => k_is); (case k25 => k_is); (case a26 => k_is); (case l26 => k_is)
    (case c26 => k_is); (case k26 => k_is); (case z_len => k_is); (case z_abs => k_is); (case z_int => k_is); (case z_range => k_is)
    (case z_sorted => k_is); (case z_min => k_is); (case z_max => k_is); (case z_list => k_is); (case z_any => k_is); (case z_isinstance => k_is)
    (case z_bool => k_is); (case z_tuple => k_is); (case z_all => k_is)

